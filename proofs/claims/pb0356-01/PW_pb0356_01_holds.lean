import PyProof.Rows.All
import Wide.All
import OpenK.AllK
import Wide.FinOn
import PySem.Challenge.RW_pb0356_01
open PySem PySem.W PySem.Calls PySem.Spec PyProof.Rows
set_option Elab.async false
set_option compiler.extract_closed false
set_option maxRecDepth 100000
set_option maxHeartbeats 8000000
set_option pp.maxSteps 3000
set_option pp.deepTerms.threshold 6
namespace Mine
section T_T0
name_quick tw7232422423428716515 for S.findZ by S.findZ_eq
name_quick tw12835720964997663042 for S.findZ by S.findZ_eq
name_quick tw13987355940573415152 for S.findZ by S.findZ_eq
name_quick tw6004533443673955352 for S.findZ by S.findZ_eq
name_quick tw9674257727999782656 for S.findZ by S.findZ_eq
name_quick tw7009043117176579089 for S.findZ by S.findZ_eq
name_quick tw219737044198020058 for S.findZ by S.findZ_eq
name_quick tw9011979029575296479 for S.findZ by S.findZ_eq
name_quick tw7250012664060256230 for S.findZ by S.findZ_eq
name_quick tw43969757491396457 for S.findZ by S.findZ_eq
name_quick tw1291980286583624508 for S.findZ by S.findZ_eq
name_quick tw1258717718454355964 for S.findZ by S.findZ_eq
name_quick tw15560500314895047343 for S.findZ by S.findZ_eq
name_quick tw16145008321745377990 for S.findZ by S.findZ_eq
name_quick tw282004115355043989 for S.findZ by S.findZ_eq
name_quick tw13640514254501968386 for S.findZ by S.findZ_eq
name_quick tw3856783459128436802 for S.findZ by S.findZ_eq
name_quick tw17804436615005485693 for S.findZ by S.findZ_eq
name_quick tw3093977132361051618 for S.findZ by S.findZ_eq
name_quick tw7275051467321613617 for S.findZ by S.findZ_eq
name_quick tw17846936440860909165 for S.findZ by S.findZ_eq
name_quick tw10528696920762540405 for S.findZ by S.findZ_eq
name_quick tw12233582284571471492 for S.findZ by S.findZ_eq
name_quick tw6135381517318000843 for S.findZ by S.findZ_eq
name_quick tw3619232141914619222 for S.findZ by S.findZ_eq
name_quick tw1829445100760108279 for S.findZ by S.findZ_eq
name_quick tw1184552218554016812 for S.findZ by S.findZ_eq
name_quick tw9376109419431680627 for S.findZ by S.findZ_eq
name_quick tw3766158894648301139 for S.findZ by S.findZ_eq
name_quick tw1355338860687761863 for S.findZ by S.findZ_eq
name_quick tw682011567655089306 for S.findZ by S.findZ_eq
name_quick tw16413264400604254196 for S.findZ by S.findZ_eq
name_quick tw11306939235166856333 for S.findZ by S.findZ_eq
name_quick tw4011157648589011858 for S.findZ by S.findZ_eq
name_quick tw13180171748994924942 for S.findZ by S.findZ_eq
name_quick tw460243522976405022 for S.findZ by S.findZ_eq
name_quick tw4407734736301137906 for S.findZ by S.findZ_eq
name_quick tw4434333111790514575 for S.findZ by S.findZ_eq
name_quick tw5978237884098788730 for S.findZ by S.findZ_eq
name_quick tw704327219915372674 for S.findZ by S.findZ_eq
name_quick tw9787463984185863102 for S.findZ by S.findZ_eq
name_quick tw18350330562280901221 for S.findZ by S.findZ_eq
name_quick tw10010936943081839664 for S.findZ by S.findZ_eq
name_quick tw3315324234476444515 for S.findZ by S.findZ_eq
name_quick tw14896874001708588922 for S.findZ by S.findZ_eq
name_quick tw151948405760981731 for S.findZ by S.findZ_eq
name_quick tw9759809726879904816 for S.findZ by S.findZ_eq
name_quick tw5732905514179830355 for S.findZ by S.findZ_eq
name_quick tw7035115661146626270 for S.findZ by S.findZ_eq
name_quick tw607167704815816724 for S.findZ by S.findZ_eq
name_quick tw14311459727803291754 for S.findZ by S.findZ_eq
name_quick tw13607416678640721797 for S.findZ by S.findZ_eq
name_quick tw11277716924127702174 for S.findZ by S.findZ_eq
name_quick tw13215998728584607739 for S.findZ by S.findZ_eq
name_quick tw2968979199505139716 for S.findZ by S.findZ_eq
name_quick tw16741492637210864865 for S.findZ by S.findZ_eq
name_quick tw9285146279643344392 for S.findZ by S.findZ_eq
name_quick tw11130039905162102590 for S.findZ by S.findZ_eq
name_quick tw2193789692954389824 for S.findZ by S.findZ_eq
name_quick tw15007238320947547705 for S.findZ by S.findZ_eq
name_quick tw15168306246750427876 for S.findZ by S.findZ_eq
name_quick tw951843321253372498 for S.findZ by S.findZ_eq
name_quick tw14386061602966655976 for S.findZ by S.findZ_eq
name_quick tw13789449189825218787 for S.findZ by S.findZ_eq
name_quick tw16966814322356759819 for S.findZ by S.findZ_eq
name_quick tw8708707556590381134 for S.findZ by S.findZ_eq
name_quick tw17964007177503468958 for S.findZ by S.findZ_eq
name_quick tw16494616584097029746 for S.findZ by S.findZ_eq
name_quick tw7299951869573292228 for S.findZ by S.findZ_eq
name_quick tw17888162413812561239 for S.findZ by S.findZ_eq
name_quick tw9940486926017733643 for S.findZ by S.findZ_eq
name_quick tw14537914154153760125 for S.findZ by S.findZ_eq
name_quick tw5882768191206486792 for S.findZ by S.findZ_eq
name_quick tw4275521005467322725 for S.findZ by S.findZ_eq
name_quick tw14108194823987119177 for S.findZ by S.findZ_eq
name_quick tw3577408171920636059 for S.findZ by S.findZ_eq
name_quick tw912392155897948271 for S.findZ by S.findZ_eq
name_quick tw17164873540382356111 for S.findZ by S.findZ_eq
name_quick tw5853683300791708862 for S.findZ by S.findZ_eq
name_quick tw18260038339965228139 for S.findZ by S.findZ_eq
name_quick tw8902219603052485911 for S.findZ by S.findZ_eq
name_quick tw1320183511955256522 for S.findZ by S.findZ_eq
name_quick tw247782244497830338 for S.findZ by S.findZ_eq
name_quick tw9979284746773624096 for S.findZ by S.findZ_eq
name_quick tw6589095468515690095 for S.findZ by S.findZ_eq
name_quick tw11270796479367742343 for S.findZ by S.findZ_eq
name_quick tw3820604794100220378 for S.findZ by S.findZ_eq
name_quick tw10948738476641704880 for S.findZ by S.findZ_eq
name_quick tw17975652961387846372 for S.findZ by S.findZ_eq
name_quick tw8032284361305108907 for S.findZ by S.findZ_eq
name_quick tw15278061642289888581 for S.findZ by S.findZ_eq
name_quick tw3698559305507148144 for S.findZ by S.findZ_eq
name_quick tw17274371674624000324 for S.findZ by S.findZ_eq
name_quick tw5357591511691535388 for S.findZ by S.findZ_eq
name_quick tw4527066259768149269 for S.findZ by S.findZ_eq
name_quick tw8224813933742928703 for S.findZ by S.findZ_eq
name_quick tw1055568401681811165 for S.findZ by S.findZ_eq
name_quick tw14333388528381170442 for S.findZ by S.findZ_eq
name_quick tw11853533878840232495 for S.findZ by S.findZ_eq
name_quick tw12825359941727978080 for S.findZ by S.findZ_eq
name_quick tw3362959441861295915 for S.findZ by S.findZ_eq
name_quick tw1370275717833778536 for S.findZ by S.findZ_eq
name_quick tw8579058602437062094 for S.findZ by S.findZ_eq
name_quick tw12393455550290869266 for S.findZ by S.findZ_eq
name_quick tw11166208814598095752 for S.findZ by S.findZ_eq
name_quick tw17111948838632640456 for S.findZ by S.findZ_eq
name_quick tw4319705520415482375 for S.findZ by S.findZ_eq
name_quick tw16548257151911338427 for S.findZ by S.findZ_eq
name_quick tw17552769576498331613 for S.findZ by S.findZ_eq
name_quick tw1735497430108182060 for S.findZ by S.findZ_eq
name_quick tw6711915476519705758 for S.findZ by S.findZ_eq
name_quick tw4978915544186085027 for S.findZ by S.findZ_eq
name_quick tw15900120412870309639 for S.findZ by S.findZ_eq
name_quick tw10007627690174824804 for S.findZ by S.findZ_eq
name_quick tw4292500188555128830 for S.findZ by S.findZ_eq
name_quick tw1749818173716722547 for S.findZ by S.findZ_eq
name_quick tw5823794197072137003 for S.findZ by S.findZ_eq
name_quick tw2315820567201803617 for S.findZ by S.findZ_eq
name_quick tw16531745337717519161 for S.findZ by S.findZ_eq
name_quick tw14884601019740666482 for S.findZ by S.findZ_eq
name_quick tw7496433998918960881 for S.findZ by S.findZ_eq
name_quick tw17069979004554194336 for S.findZ by S.findZ_eq
name_quick tw13912434898499826684 for S.findZ by S.findZ_eq
name_quick tw14834023430324568649 for S.findZ by S.findZ_eq
name_quick tw13016732220969518872 for S.findZ by S.findZ_eq
name_quick tw15263041282635125899 for S.findZ by S.findZ_eq
name_quick tw795377275742717654 for S.findZ by S.findZ_eq
name_quick tw12659028871203227004 for S.findZ by S.findZ_eq
name_quick tw2905824091091238844 for S.findZ by S.findZ_eq
name_quick tw136631920214876835 for S.findZ by S.findZ_eq
name_quick tw5721027456603625697 for S.findZ by S.findZ_eq
name_quick tw13317431791736044220 for S.findZ by S.findZ_eq
name_quick tw12290603225136948437 for S.findZ by S.findZ_eq
name_quick tw6122645084068987007 for S.findZ by S.findZ_eq
name_quick tw1537898542681612871 for S.findZ by S.findZ_eq
name_quick tw14714103240675001986 for S.findZ by S.findZ_eq
name_quick tw1041845030581493396 for S.findZ by S.findZ_eq
name_quick tw2422670821966735624 for S.findZ by S.findZ_eq
name_quick tw8860024209350480642 for S.findZ by S.findZ_eq
name_quick tw7581816359482902497 for S.findZ by S.findZ_eq
name_quick tw9594665118957945026 for S.findZ by S.findZ_eq
name_quick tw3778451253796500701 for S.findZ by S.findZ_eq
name_quick tw9676229304581654039 for S.findZ by S.findZ_eq
name_quick tw11333186260410459676 for S.findZ by S.findZ_eq
name_quick tw15423634916342008072 for S.findZ by S.findZ_eq
name_quick tw16869277618539721502 for S.findZ by S.findZ_eq
name_quick tw9501820088010722379 for S.findZ by S.findZ_eq
name_quick tw3282434896037501709 for S.findZ by S.findZ_eq
name_quick tw2627984346626558326 for S.findZ by S.findZ_eq
name_quick tw16752143609539240740 for S.findZ by S.findZ_eq
name_quick tw183835017167291270 for S.findZ by S.findZ_eq
name_quick tw7198390536060210744 for S.findZ by S.findZ_eq
name_quick tw4075660801711882420 for S.findZ by S.findZ_eq
name_quick tw11519604305632133818 for S.findZ by S.findZ_eq
name_quick tw15823609455315575823 for S.findZ by S.findZ_eq
name_quick tw12898947447245864913 for S.findZ by S.findZ_eq
name_quick tw16350708796919097252 for S.findZ by S.findZ_eq
name_quick tw5189142188285759775 for S.findZ by S.findZ_eq
name_quick tw724751600484774222 for S.findZ by S.findZ_eq
name_quick tw16487347958798203451 for S.findZ by S.findZ_eq
name_quick tw4302124980754421698 for S.findZ by S.findZ_eq
name_quick tw11588390666370768167 for S.findZ by S.findZ_eq
name_quick tw9458956999447867950 for S.findZ by S.findZ_eq
name_quick tw12734952128020822468 for S.findZ by S.findZ_eq
name_quick tw667198328695590252 for S.findZ by S.findZ_eq
name_quick tw8796240567053077481 for S.findZ by S.findZ_eq
name_quick tw10919533547850550483 for S.findZ by S.findZ_eq
name_quick tw1574873078441994576 for S.findZ by S.findZ_eq
name_quick tw8450942572126056277 for S.findZ by S.findZ_eq
name_quick tw17000155066101142889 for S.findZ by S.findZ_eq
name_quick tw2354101950205528012 for S.findZ by S.findZ_eq
name_quick tw16439824349840649037 for S.findZ by S.findZ_eq
name_quick tw16593013826814733010 for S.findZ by S.findZ_eq
name_quick tw15490439104401381959 for S.findZ by S.findZ_eq
name_quick tw16643706677886111943 for S.findZ by S.findZ_eq
name_quick tw16374537267813192141 for S.findZ by S.findZ_eq
name_quick tw10887116778572429059 for S.findZ by S.findZ_eq
name_quick tw1419416864934026935 for S.findZ by S.findZ_eq
name_quick tw10323183001455561277 for S.findZ by S.findZ_eq
name_quick tw3424931102881643321 for S.findZ by S.findZ_eq
name_quick tw5349121933718820234 for S.findZ by S.findZ_eq
name_quick tw9136488742655976645 for S.findZ by S.findZ_eq
name_quick tw2670528217467546775 for S.findZ by S.findZ_eq
name_quick tw2478078296215019888 for S.findZ by S.findZ_eq
name_quick tw11964429278604863157 for S.findZ by S.findZ_eq
name_quick tw2611137233208623240 for S.findZ by S.findZ_eq
name_quick tw3105397867545767578 for S.findZ by S.findZ_eq
name_quick tw16296994325663420285 for S.findZ by S.findZ_eq
name_quick tw3976722010076183465 for S.findZ by S.findZ_eq
name_quick tw1258299570235058372 for S.findZ by S.findZ_eq
name_quick tw6722154040420286063 for S.findZ by S.findZ_eq
name_quick tw17988542015724977305 for S.findZ by S.findZ_eq
name_quick tw17672482021469178181 for S.findZ by S.findZ_eq
name_quick tw3972328310683599613 for S.findZ by S.findZ_eq
name_quick tw5396446701170858492 for S.findZ by S.findZ_eq
name_quick tw6679490504615227074 for S.findZ by S.findZ_eq
name_quick tw9967110833062545112 for S.findZ by S.findZ_eq
name_quick tw9763268239775435451 for S.findZ by S.findZ_eq
name_quick tw5697894365363955025 for S.findZ by S.findZ_eq
name_quick tw7392212959928792091 for S.findZ by S.findZ_eq
name_quick tw8693227569615203950 for S.findZ by S.findZ_eq
name_quick tw3442601649717412197 for S.findZ by S.findZ_eq
name_quick tw14821650378409806113 for S.findZ by S.findZ_eq
name_quick tw8753696776887207221 for S.findZ by S.findZ_eq
name_quick tw932993149863042379 for S.findZ by S.findZ_eq
name_quick tw3264259588550801142 for S.findZ by S.findZ_eq
name_quick tw18263319221461684349 for S.findZ by S.findZ_eq
name_quick tw6380047634161181297 for S.findZ by S.findZ_eq
name_quick tw14073706353221006472 for S.findZ by S.findZ_eq
name_quick tw13678640442995254988 for S.findZ by S.findZ_eq
name_quick tw11543547407058413889 for S.findZ by S.findZ_eq
name_quick tw1886563365779066154 for S.findZ by S.findZ_eq
name_quick tw11161088081135249708 for S.findZ by S.findZ_eq
name_quick tw5952222538312397957 for S.findZ by S.findZ_eq
name_quick tw1702518465993881591 for S.findZ by S.findZ_eq
name_quick tw4549333791460862111 for S.findZ by S.findZ_eq
name_quick tw6019396324639902685 for S.findZ by S.findZ_eq
name_quick tw926213455627471399 for S.findZ by S.findZ_eq
name_quick tw6363645014702824404 for S.findZ by S.findZ_eq
name_quick tw8075568018651887793 for S.findZ by S.findZ_eq
name_quick tw14433975572909055671 for S.findZ by S.findZ_eq
name_quick tw5268983451555188008 for S.findZ by S.findZ_eq
name_quick tw3094477031063562474 for S.findZ by S.findZ_eq
name_quick tw17100903815162463580 for S.findZ by S.findZ_eq
name_quick tw15066959818950650227 for S.findZ by S.findZ_eq
name_quick tw4090926877573551719 for S.findZ by S.findZ_eq
name_quick tw13335737130258781183 for S.findZ by S.findZ_eq
name_quick tw12813236842856870187 for S.findZ by S.findZ_eq
name_quick tw1156252341971683116 for S.findZ by S.findZ_eq
name_quick tw12832477231654346042 for S.findZ by S.findZ_eq
name_quick tw4494412221228344150 for S.findZ by S.findZ_eq
name_quick tw9151444980202551346 for S.findZ by S.findZ_eq
name_quick tw313226197891681235 for S.findZ by S.findZ_eq
name_quick tw16018607276475445134 for S.findZ by S.findZ_eq
name_quick tw15034313371233782410 for S.findZ by S.findZ_eq
name_quick tw3152983702415266003 for S.findZ by S.findZ_eq
name_quick tw3436264866546951355 for S.findZ by S.findZ_eq
name_quick tw10942035263794033107 for S.findZ by S.findZ_eq
name_quick tw1706496860858754268 for S.findZ by S.findZ_eq
name_quick tw11108263761283441063 for S.findZ by S.findZ_eq
name_quick tw2862820112641550484 for S.findZ by S.findZ_eq
name_quick tw3129706707597842070 for S.findZ by S.findZ_eq
name_quick tw13254397897704925713 for S.findZ by S.findZ_eq
name_quick tw7269565832213808900 for S.findZ by S.findZ_eq
name_quick tw13776390136698705113 for S.findZ by S.findZ_eq
name_quick tw15832574454432446284 for S.findZ by S.findZ_eq
name_quick tw11625766737575182897 for S.findZ by S.findZ_eq
name_quick tw6550987210724342151 for S.findZ by S.findZ_eq
name_quick tw11186114360453789277 for S.findZ by S.findZ_eq
name_quick tw900395245841561262 for S.findZ by S.findZ_eq
name_quick tw6434265647005701932 for S.findZ by S.findZ_eq
name_quick tw11445135464325071761 for S.findZ by S.findZ_eq
name_quick tw11788150170368784547 for S.findZ by S.findZ_eq
name_quick tw4921902886906138986 for S.findZ by S.findZ_eq
name_quick tw7098571738820278039 for S.findZ by S.findZ_eq
name_quick tw12945451867199242903 for S.findZ by S.findZ_eq
name_quick tw8098380416015320538 for S.findZ by S.findZ_eq
name_quick tw11790162104776037713 for S.findZ by S.findZ_eq
name_quick tw7401281599722004195 for S.findZ by S.findZ_eq
name_quick tw11310463157757771331 for S.findZ by S.findZ_eq
name_quick tw4525517667737911620 for S.findZ by S.findZ_eq
name_quick tw15195428891847259777 for S.findZ by S.findZ_eq
name_quick tw16697116713213952808 for S.findZ by S.findZ_eq
name_quick tw608726401823008365 for S.findZ by S.findZ_eq
name_quick tw5345256250457102556 for S.findZ by S.findZ_eq
name_quick tw5770868932273138760 for S.findZ by S.findZ_eq
name_quick tw1962928258387122110 for S.findZ by S.findZ_eq
name_quick tw16241802466949684156 for S.findZ by S.findZ_eq
name_quick tw9315938663221665524 for S.findZ by S.findZ_eq
name_quick tw7554892946129407724 for S.findZ by S.findZ_eq
name_quick tw10996506086634736982 for S.findZ by S.findZ_eq
name_quick tw6059929106960060952 for S.findZ by S.findZ_eq
name_quick tw1333364371103165705 for S.findZ by S.findZ_eq
name_quick tw6662432510661729299 for S.findZ by S.findZ_eq
name_quick tw12237943961548833269 for S.findZ by S.findZ_eq
name_quick tw15663404670287596823 for S.findZ by S.findZ_eq
name_quick tw8603108125212654177 for S.findZ by S.findZ_eq
name_quick tw11994158751524154303 for S.findZ by S.findZ_eq
name_quick tw17300597898927385350 for S.findZ by S.findZ_eq
name_quick tw13615603153576403970 for S.findZ by S.findZ_eq
name_quick tw1218959903707654005 for S.findZ by S.findZ_eq
name_quick tw11863081143760314161 for S.findZ by S.findZ_eq
name_quick tw11838138170533393997 for S.findZ by S.findZ_eq
name_quick tw8238876669374634799 for S.findZ by S.findZ_eq
name_quick tw10205541121877940668 for S.findZ by S.findZ_eq
name_quick tw7299303143086499733 for S.findZ by S.findZ_eq
name_quick tw7365555872484859036 for S.findZ by S.findZ_eq
name_quick tw17828083071136270317 for S.findZ by S.findZ_eq
name_quick tw8703263022893421829 for S.findZ by S.findZ_eq
name_quick tw6434138532213402376 for S.findZ by S.findZ_eq
name_quick tw1620339239838986703 for S.findZ by S.findZ_eq
name_quick tw2660918139993853925 for S.findZ by S.findZ_eq
name_quick tw7581352650102555174 for S.findZ by S.findZ_eq
name_quick tw558745408833754511 for S.findZ by S.findZ_eq
name_quick tw17532718790514356516 for S.findZ by S.findZ_eq
name_quick tw10833955939284561965 for S.findZ by S.findZ_eq
name_quick tw15323854079317868165 for S.findZ by S.findZ_eq
name_quick tw13141144453892091621 for S.findZ by S.findZ_eq
name_quick tw9948023125614773506 for S.findZ by S.findZ_eq
name_quick tw10938465397075749097 for S.findZ by S.findZ_eq
name_quick tw721709456127091705 for S.findZ by S.findZ_eq
name_quick tw3118938333895590913 for S.findZ by S.findZ_eq
name_quick tw14223099787259518943 for S.findZ by S.findZ_eq
name_quick tw17018628822417861297 for S.findZ by S.findZ_eq
name_quick tw1242536812170058772 for S.findZ by S.findZ_eq
name_quick tw15475462885187679331 for S.findZ by S.findZ_eq
name_quick tw3636048126100218174 for S.findZ by S.findZ_eq
name_quick tw5706481520468235054 for S.findZ by S.findZ_eq
name_quick tw8595292554425487202 for S.findZ by S.findZ_eq
name_quick tw11985326045990495214 for S.findZ by S.findZ_eq
name_quick tw12177639751122801600 for S.findZ by S.findZ_eq
name_quick tw5925582254088234700 for S.findZ by S.findZ_eq
name_quick tw16979880578912567463 for S.findZ by S.findZ_eq
name_quick tw13236226663087606529 for S.findZ by S.findZ_eq
name_quick tw12981051755390344553 for S.findZ by S.findZ_eq
name_quick tw17057272898397164401 for S.findZ by S.findZ_eq
name_quick tw7783732958741208154 for S.findZ by S.findZ_eq
name_quick tw12392613427281201732 for S.findZ by S.findZ_eq
name_quick tw8555734327229750603 for S.findZ by S.findZ_eq
name_quick tw392140993173905013 for S.findZ by S.findZ_eq
name_quick tw7504490480230193789 for S.findZ by S.findZ_eq
name_quick tw18056578402003937789 for S.findZ by S.findZ_eq
name_quick tw7286323032743288035 for S.findZ by S.findZ_eq
name_quick tw8119918657739134586 for S.findZ by S.findZ_eq
name_quick tw18416463498863911781 for S.findZ by S.findZ_eq
name_quick tw11636919720809706868 for S.findZ by S.findZ_eq
name_quick tw12371321757623732685 for S.findZ by S.findZ_eq
name_quick tw11892598404827812706 for S.findZ by S.findZ_eq
name_quick tw8537084889766193716 for S.findZ by S.findZ_eq
name_quick tw17497748084772794779 for S.findZ by S.findZ_eq
name_quick tw4071324889030633612 for S.findZ by S.findZ_eq
name_quick tw12172078356533094185 for S.findZ by S.findZ_eq
name_quick tw3131671291697673992 for S.findZ by S.findZ_eq
name_quick tw15376083050721069600 for S.findZ by S.findZ_eq
name_quick tw12635297910168745909 for S.findZ by S.findZ_eq
name_quick tw18340240734955500558 for S.findZ by S.findZ_eq
name_quick tw13002492023102617099 for S.findZ by S.findZ_eq
name_quick tw16437185098154296904 for S.findZ by S.findZ_eq
name_quick tw13559156169165276386 for S.findZ by S.findZ_eq
name_quick tw3386650904741475044 for S.findZ by S.findZ_eq
name_quick tw12850107946570832962 for S.findZ by S.findZ_eq
name_quick tw4558998842232669794 for S.findZ by S.findZ_eq
name_quick tw7892128664451923741 for S.findZ by S.findZ_eq
name_quick tw2664551874359636763 for S.findZ by S.findZ_eq
name_quick tw347637069881736656 for S.findZ by S.findZ_eq
name_quick tw1638017585896720355 for S.findZ by S.findZ_eq
name_quick tw8400853705098224536 for S.findZ by S.findZ_eq
name_quick tw14153487995670779234 for S.findZ by S.findZ_eq
name_quick tw18220123701641295943 for S.findZ by S.findZ_eq
name_quick tw9951705424602377420 for S.findZ by S.findZ_eq
name_quick tw4552823106982906706 for S.findZ by S.findZ_eq
name_quick tw2039238271031011813 for S.findZ by S.findZ_eq
name_quick tw13759679279233594173 for S.findZ by S.findZ_eq
name_quick tw10706342367453228570 for S.findZ by S.findZ_eq
name_quick tw6448080314894763839 for S.findZ by S.findZ_eq
name_quick tw2447775223705975068 for S.findZ by S.findZ_eq
name_quick tw4679858250743294509 for S.findZ by S.findZ_eq
name_quick tw15542503528162795033 for S.findZ by S.findZ_eq
name_quick tw12329403913580668285 for S.findZ by S.findZ_eq
name_quick tw11707433790658880453 for S.findZ by S.findZ_eq
name_quick tw441327347791068078 for S.findZ by S.findZ_eq
name_quick tw9908251947323293946 for S.findZ by S.findZ_eq
name_quick tw5032809538720368765 for S.findZ by S.findZ_eq
name_quick tw18345786424863182364 for S.findZ by S.findZ_eq
name_quick tw505943868828395459 for S.findZ by S.findZ_eq
name_quick tw6792406925840432001 for S.findZ by S.findZ_eq
name_quick tw11378322030455005005 for S.findZ by S.findZ_eq
name_quick tw7276740287692124622 for S.findZ by S.findZ_eq
name_quick tw10314498396905981064 for S.findZ by S.findZ_eq
name_quick tw9626621113073979434 for S.findZ by S.findZ_eq
name_quick tw1092655722715705105 for S.findZ by S.findZ_eq
name_quick tw15766043655864335149 for S.findZ by S.findZ_eq
name_quick tw14210447440969649564 for S.findZ by S.findZ_eq
name_quick tw5701610774189311196 for S.findZ by S.findZ_eq
name_quick tw11317593695737139937 for S.findZ by S.findZ_eq
name_quick tw6817277305950994716 for S.findZ by S.findZ_eq
name_quick tw16349216596472256690 for S.findZ by S.findZ_eq
name_quick tw12866136484021002089 for S.findZ by S.findZ_eq
name_quick tw11420187438672877268 for S.findZ by S.findZ_eq
name_quick tw5111356299099525756 for S.findZ by S.findZ_eq
name_quick tw14112274594779413971 for S.findZ by S.findZ_eq
name_quick tw10941641332493087335 for S.findZ by S.findZ_eq
name_quick tw8642067239939848140 for S.findZ by S.findZ_eq
name_quick tw11013792430000457035 for S.findZ by S.findZ_eq
name_quick tw5518745428033880147 for S.findZ by S.findZ_eq
name_quick tw7745614565497352828 for S.findZ by S.findZ_eq
name_quick tw17537794083376710389 for S.findZ by S.findZ_eq
name_quick tw6683783046931543321 for S.findZ by S.findZ_eq
name_quick tw4797165386629745026 for S.findZ by S.findZ_eq
name_quick tw8727135674562949291 for S.findZ by S.findZ_eq
name_quick tw12022618010286034681 for S.findZ by S.findZ_eq
name_quick tw2599325451414397859 for S.findZ by S.findZ_eq
name_quick tw17434858337260393937 for S.findZ by S.findZ_eq
name_quick tw14979626087600564940 for S.findZ by S.findZ_eq
name_quick tw470574548607681690 for S.findZ by S.findZ_eq
name_quick tw2408619945344806742 for S.findZ by S.findZ_eq
name_quick tw11452132507678324671 for S.findZ by S.findZ_eq
name_quick tw8424611434330503625 for S.findZ by S.findZ_eq
name_quick tw13900631225919944168 for S.findZ by S.findZ_eq
name_quick tw14023627001141898710 for S.findZ by S.findZ_eq
name_quick tw8376441433122354887 for S.findZ by S.findZ_eq
name_quick tw12635813782599140982 for S.findZ by S.findZ_eq
name_quick tw4224760802259116069 for S.findZ by S.findZ_eq
name_quick tw11729385059970357855 for S.findZ by S.findZ_eq
name_quick tw13981391230805400906 for S.findZ by S.findZ_eq
name_quick tw10227693086864044499 for S.findZ by S.findZ_eq
name_quick tw14326252917377295143 for S.findZ by S.findZ_eq
name_quick tw6654550962395885724 for S.findZ by S.findZ_eq
name_quick tw12880600461018141596 for S.findZ by S.findZ_eq
name_quick tw6245536207120538393 for S.findZ by S.findZ_eq
name_quick tw16414604833108395602 for S.findZ by S.findZ_eq
name_quick tw16349804527192203551 for S.findZ by S.findZ_eq
name_quick tw15450981722951097364 for S.findZ by S.findZ_eq
name_quick tw7788680626742099145 for S.findZ by S.findZ_eq
name_quick tw5200128776193632040 for S.findZ by S.findZ_eq
name_quick tw12450158673883907302 for S.findZ by S.findZ_eq
name_quick tw1377046205977697930 for S.findZ by S.findZ_eq
name_quick tw9564595351457756722 for S.findZ by S.findZ_eq
name_quick tw7323676302269181137 for S.findZ by S.findZ_eq
name_quick tw387338674003428930 for S.findZ by S.findZ_eq
name_quick tw17000458434675057986 for S.findZ by S.findZ_eq
name_quick tw5135500740108067664 for S.findZ by S.findZ_eq
name_quick tw2719445374943340272 for S.findZ by S.findZ_eq
name_quick tw3880421473898291048 for S.findZ by S.findZ_eq
name_quick tw16792545251062261874 for S.findZ by S.findZ_eq
name_quick tw1772237422875290029 for S.findZ by S.findZ_eq
name_quick tw7650934615059315214 for S.findZ by S.findZ_eq
name_quick tw16049961110935095269 for S.findZ by S.findZ_eq
name_quick tw10500077913531017323 for S.findZ by S.findZ_eq
name_quick tw9529234661008812162 for S.findZ by S.findZ_eq
name_quick tw18211773271919218964 for S.findZ by S.findZ_eq
name_quick tw9467589175468403638 for S.findZ by S.findZ_eq
name_quick tw10470071008263537045 for S.findZ by S.findZ_eq
name_quick tw117213463901210413 for S.findZ by S.findZ_eq
name_quick tw17863021456227041891 for S.findZ by S.findZ_eq
name_quick tw15742981410569661332 for S.findZ by S.findZ_eq
name_quick tw4775785305629353868 for S.findZ by S.findZ_eq
name_quick tw10317580896714288900 for S.findZ by S.findZ_eq
name_quick tw5902227825499142635 for S.findZ by S.findZ_eq
name_quick tw8989982439271903415 for S.findZ by S.findZ_eq
name_quick tw3764465048917985505 for S.findZ by S.findZ_eq
name_quick tw17279654841073493023 for S.findZ by S.findZ_eq
name_quick tw9800571698397750058 for S.findZ by S.findZ_eq
name_quick tw6714822604882049554 for S.findZ by S.findZ_eq
name_quick tw10424941004445345732 for S.findZ by S.findZ_eq
name_quick tw16176465441171805009 for S.findZ by S.findZ_eq
name_quick tw13512673800721320934 for S.findZ by S.findZ_eq
open_top hd for PySem.Challenge.rw_pb0356_01
end T_T0
section T_M0
abbrev S (x : String) : Str := Str.ofString x
inductive Tk where
  | eof | nt | lp | rp | lb | rb | dots | comma | minus | mul | plus | rel | word | bad
  deriving DecidableEq
/-- the first sign of a word is a letter or a figure -/
noncomputable def alHead (x : Str) : Bool := Txt.isalnum ⟨#[x.cps.toList.headD 32]⟩
noncomputable def mulWords : List Str := [S "*", S "/", S "DIV", S "MOD", S "&"]
noncomputable def sumWords : List Str := [S "+", S "-", S "OR"]
noncomputable def relWords : List Str := [S "=", S "#", S "<", S "<=", S ">", S ">=", S "IN"]
noncomputable def keyWords : List Str := [S "DIV", S "MOD", S "OR", S "IN"]
noncomputable def tkTab : List (Str × Tk) := [(S "", .eof), (S "~", .nt), (S "(", .lp), (S ")", .rp), (S "{", .lb), (S "}", .rb), (S "..", .dots), (S ",", .comma), (S "-", .minus),
  (S "*", .mul), (S "/", .mul), (S "DIV", .mul), (S "MOD", .mul), (S "&", .mul), (S "+", .plus), (S "OR", .plus),
  (S "=", .rel), (S "#", .rel), (S "<", .rel), (S "<=", .rel), (S ">", .rel), (S ">=", .rel), (S "IN", .rel)]
noncomputable def cls (x : Str) : Tk := match tkTab.lookup x with
  | some k => k
  | none => if alHead x then .word else .bad
theorem mem_of_lookup {x : Str} {k : Tk} {l : List (Str × Tk)} (h : l.lookup x = some k) : (x, k) ∈ l := by
  induction l with
  | nil => cases h
  | cons p l ih =>
    rw [List.lookup_cons] at h
    cases e : x == p.1 with
    | true => rw [e] at h; cases h; rw [eq_of_beq e]; exact .head _
    | false => rw [e] at h; exact .tail _ (ih h)
theorem mem_of_cls {x : Str} {k : Tk} (h : cls x = k) (h1 : k ≠ .word) (h2 : k ≠ .bad) : (x, k) ∈ tkTab := by
  unfold cls at h
  cases e : tkTab.lookup x with
  | some c => rw [e] at h; cases h; exact mem_of_lookup e
  | none =>
    rw [e] at h
    cases q : alHead x with
    | true => rw [q] at h; exact absurd h.symm h1
    | false => rw [q] at h; exact absurd h.symm h2
theorem cls_iff {x : Str} {k : Tk} {P : Str → Prop} (h1 : k ≠ .word) (h2 : k ≠ .bad) (u : ∀ p ∈ tkTab, p.2 = k → P p.1) (v : ∀ y, P y → cls y = k) : cls x = k ↔ P x :=
  ⟨fun h => u _ (mem_of_cls h h1 h2) rfl, v x⟩
theorem cls_one {x y : Str} {k : Tk} (h1 : k ≠ .word) (h2 : k ≠ .bad) (u : ∀ p ∈ tkTab, p.2 = k → p.1 = y) (v : cls y = k) : cls x = k ↔ x = y := cls_iff (P := fun z => z = y) h1 h2 u fun _ e => (congrArg cls e).trans v
theorem cls_eof {x : Str} : cls x = .eof ↔ x = S "" := cls_one (by decide) (by decide) (by decide +kernel) (by decide +kernel)
theorem cls_nt {x : Str} : cls x = .nt ↔ x = S "~" := cls_one (by decide) (by decide) (by decide +kernel) (by decide +kernel)
theorem cls_lp {x : Str} : cls x = .lp ↔ x = S "(" := cls_one (by decide) (by decide) (by decide +kernel) (by decide +kernel)
theorem cls_rp {x : Str} : cls x = .rp ↔ x = S ")" := cls_one (by decide) (by decide) (by decide +kernel) (by decide +kernel)
theorem cls_lb {x : Str} : cls x = .lb ↔ x = S "{" := cls_one (by decide) (by decide) (by decide +kernel) (by decide +kernel)
theorem cls_rb {x : Str} : cls x = .rb ↔ x = S "}" := cls_one (by decide) (by decide) (by decide +kernel) (by decide +kernel)
theorem cls_dots {x : Str} : cls x = .dots ↔ x = S ".." := cls_one (by decide) (by decide) (by decide +kernel) (by decide +kernel)
theorem cls_comma {x : Str} : cls x = .comma ↔ x = S "," := cls_one (by decide) (by decide) (by decide +kernel) (by decide +kernel)
theorem cls_minus {x : Str} : cls x = .minus ↔ x = S "-" := cls_one (by decide) (by decide) (by decide +kernel) (by decide +kernel)
theorem cls_mul {x : Str} : cls x = .mul ↔ x ∈ mulWords := cls_iff (by decide) (by decide) (by decide +kernel) (by decide +kernel)
theorem cls_rel {x : Str} : cls x = .rel ↔ x ∈ relWords := cls_iff (by decide) (by decide) (by decide +kernel) (by decide +kernel)
theorem sum_all : ∀ x ∈ sumWords, (cls x = .plus ∨ cls x = .minus) := by decide +kernel
theorem cls_plus {x : Str} (h : cls x = .plus) : x ∈ sumWords := (by decide +kernel : ∀ p ∈ tkTab, p.2 = .plus → p.1 ∈ sumWords) _ (mem_of_cls h (by decide) (by decide)) rfl
theorem cls_sum {x : Str} : (cls x = .plus ∨ cls x = .minus) ↔ x ∈ sumWords :=
  ⟨fun h => h.elim cls_plus fun h => cls_minus.mp h ▸ (by decide +kernel), fun h => sum_all _ h⟩
theorem tab_heads : ∀ p ∈ tkTab, p.2 = .nt ∨ p.2 = .lp ∨ p.2 = .lb ∨ p.1 = S "" ∨ alHead p.1 = false ∨ p.1 ∈ keyWords := by decide +kernel
theorem key_cls : ∀ x ∈ keyWords, cls x ≠ .word := by decide +kernel
theorem cls_word {x : Str} (h1 : cls x ≠ .nt) (h2 : cls x ≠ .lp) (h3 : cls x ≠ .lb) : cls x = .word ↔ (x ≠ S "" ∧ alHead x = true ∧ x ∉ keyWords) := by
  constructor
  · intro h
    refine ⟨fun e => ?_, ?_, fun hk => key_cls x hk h⟩
    · rw [cls_eof.mpr e] at h; cases h
    · unfold cls at h
      cases e : tkTab.lookup x with
      | some c =>
        rw [e] at h
        exact absurd h ((by decide +kernel : ∀ p ∈ tkTab, p.2 ≠ .word) _ (mem_of_lookup e))
      | none =>
        rw [e] at h
        cases q : alHead x with
        | true => rfl
        | false => rw [q] at h; cases h
  · rintro ⟨a, b, c⟩
    unfold cls at h1 h2 h3 ⊢
    cases e : tkTab.lookup x with
    | some k =>
      exfalso
      rw [e] at h1 h2 h3
      rcases tab_heads _ (mem_of_lookup e) with q | q | q | q | q | q
      · exact h1 q
      · exact h2 q
      · exact h3 q
      · exact a q
      · rw [b] at q; cases q
      · exact c q
    | none => rw [b]; rfl
end T_M0
section T_M1
abbrev fw (ws : List Str) : Str := ws.headD (S "")
noncomputable def mk3 (x : Str) (d d2 : Dat) : Dat := match d2 with | .none => .none | e => .list [.str x, d, e]
noncomputable def mk2 (d : Dat) : Dat := match d with | .none => .none | e => .list [.str (S "-"), e]
inductive Kd where
  | fac | term | signed | sum | rel | piece
  | termR (d : Dat) | sumR (d : Dat) | set (acc : List Dat)
/-- what is left to do behind an inner run -/
inductive Fi where
  | ret (d : Dat) (us : List Str)
  | go (k : Kd) (ws : List Str) (g : Dat → Dat)
/-- the first step of a run -/
inductive Fo where
  | ret (d : Dat) (us : List Str)
  | go (k : Kd) (ws : List Str) (f : Dat → List Str → Fi)
open scoped Classical in
noncomputable def step : Kd → List Str → Fo
  | .fac, ws => if cls (fw ws) = .nt then .go .fac ws.tail fun d us => .ret (.list [.str (S "~"), d]) us
    else if cls (fw ws) = .lp then .go .rel ws.tail fun d us => if cls (fw us) = .rp then .ret d us.tail else .ret .none us
    else if cls (fw ws) = .lb then .go (.set []) ws.tail .ret
    else if cls (fw ws) = .word then .ret (.str (fw ws)) ws.tail else .ret .none ws
  | .term, ws => .go .fac ws fun d us => .go (.termR d) us id
  | .signed, ws => if cls (fw ws) = .minus then .go .term ws.tail fun d us => .ret (mk2 d) us else .go .term ws .ret
  | .sum, ws => .go .signed ws fun d us => .go (.sumR d) us id
  | .rel, ws => .go .sum ws fun d us => if d = .none ∨ cls (fw us) ≠ .rel then .ret d us else .go .sum us.tail fun d2 => mk3 (fw us) d d2
  | .piece, ws => .go .rel ws fun d us => if cls (fw us) = .dots then .go .rel us.tail fun d2 => .list [.str (S ".."), d, d2] else .ret (.list [.str (S "one"), d]) us
  | .termR d, ws => if d = .none ∨ cls (fw ws) ≠ .mul then .ret d ws else .go .fac ws.tail fun d2 us => .go (.termR (mk3 (fw ws) d d2)) us id
  | .sumR d, ws => if d = .none ∨ (cls (fw ws) ≠ .plus ∧ cls (fw ws) ≠ .minus) then .ret d ws else .go .term ws.tail fun d2 us => .go (.sumR (mk3 (fw ws) d d2)) us id
  | .set acc, ws => if cls (fw ws) = .rb then .ret (.list (.str (S "{") :: acc)) ws.tail else if cls (fw ws) = .eof then .ret .none ws
    else .go .piece ws fun p us => if cls (fw us) = .comma then .go (.set (acc ++ [p])) us.tail id else if cls (fw us) = .rb then .ret (.list (.str (S "{") :: (acc ++ [p]))) us.tail else .ret .none us
abbrev Run := Kd → List Str → Dat → List Str → Prop
noncomputable def Fi.sat (R : Run) : Fi → Dat → List Str → Prop
  | .ret d us, e, vs => d = e ∧ us = vs
  | .go k ws g, e, vs => ∃ d2, R k ws d2 vs ∧ g d2 = e
noncomputable def Fo.sat (R : Run) : Fo → Dat → List Str → Prop
  | .ret d us, e, vs => d = e ∧ us = vs
  | .go k ws f, e, vs => ∃ d1 u1, R k ws d1 u1 ∧ (f d1 u1).sat R e vs
theorem Fi.mono {R S : Run} (h : ∀ {k ws d us}, R k ws d us → S k ws d us) : ∀ (x : Fi) {e vs}, x.sat R e vs → x.sat S e vs
  | .ret _ _, _, _, q => q
  | .go _ _ _, _, _, q => q.imp fun _ q => ⟨h q.1, q.2⟩
theorem Fo.mono {R S : Run} (h : ∀ {k ws d us}, R k ws d us → S k ws d us) : ∀ (x : Fo) {e vs}, x.sat R e vs → x.sat S e vs
  | .ret _ _, _, _, q => q
  | .go _ _ _, _, _, q => q.imp fun _ q => q.imp fun _ q => ⟨h q.1, Fi.mono h _ q.2⟩
/-- the reader's runs: kind, words before, what it hands back, words left: the least relation that step asks for -/
noncomputable def Rd (k : Kd) (ws : List Str) (d : Dat) (us : List Str) : Prop := ∀ P : Run, (∀ k ws d us, (step k ws).sat P d us → P k ws d us) → P k ws d us
theorem Rd.mk {k ws d us} (h : (step k ws).sat Rd d us) : Rd k ws d us := fun P C => C _ _ _ _ (Fo.mono (fun r => r P C) _ h)
noncomputable def Both (P : Run) : Run := fun k ws d us => Rd k ws d us ∧ P k ws d us
theorem Rd.ind {P : Run} (C : ∀ k ws d us, (step k ws).sat (Both P) d us → P k ws d us) {k ws d us} (h : Rd k ws d us) : P k ws d us :=
  (h (Both P) fun _ _ _ _ q => ⟨.mk (Fo.mono (fun r => r.1) _ q), C _ _ _ _ q⟩).2
theorem Rd.inv {k ws d us} (h : Rd k ws d us) : (step k ws).sat Rd d us :=
  Rd.ind (P := fun k ws d us => (step k ws).sat Rd d us) (fun _ _ _ _ q => Fo.mono (fun r => r.1) _ q) h
noncomputable def Det : Run := fun k ws d us => ∀ {e vs}, Rd k ws e vs → d = e ∧ us = vs
theorem Fi.det : ∀ (x : Fi) {d us e vs}, x.sat (Both Det) d us → x.sat Rd e vs → d = e ∧ us = vs
  | .ret _ _, _, _, _, _, p, q => ⟨p.1.symm.trans q.1, p.2.symm.trans q.2⟩
  | .go _ _ g, _, _, _, _, ⟨_, p, a⟩, ⟨_, q, b⟩ => ⟨a.symm.trans ((congrArg g (p.2 q).1).trans b), (p.2 q).2⟩
theorem Fo.det : ∀ (x : Fo) {d us e vs}, x.sat (Both Det) d us → x.sat Rd e vs → d = e ∧ us = vs
  | .ret _ _, _, _, _, _, p, q => ⟨p.1.symm.trans q.1, p.2.symm.trans q.2⟩
  | .go _ _ _, _, _, _, _, ⟨_, _, p, a⟩, ⟨_, _, q, b⟩ => by
    obtain ⟨e1, e2⟩ := p.2 q
    rw [e1, e2] at a
    exact Fi.det _ a b
theorem Rd.det {k ws d us} (h : Rd k ws d us) {e vs} (q : Rd k ws e vs) : d = e ∧ us = vs :=
  Rd.ind (P := Det) (fun _ _ _ _ a => fun q => Fo.det _ a q.inv) h q
section
variable {c : Prop} {_ : Decidable c} {R : Run} {d : Dat} {us : List Str}
theorem Fo.pos {a b : Fo} (h : c) (q : a.sat R d us) : (if c then a else b).sat R d us := by rw [if_pos h]; exact q
theorem Fo.neg {a b : Fo} (h : ¬c) (q : b.sat R d us) : (if c then a else b).sat R d us := by rw [if_neg h]; exact q
theorem Fi.pos {a b : Fi} (h : c) (q : a.sat R d us) : (if c then a else b).sat R d us := by rw [if_pos h]; exact q
theorem Fi.neg {a b : Fi} (h : ¬c) (q : b.sat R d us) : (if c then a else b).sat R d us := by rw [if_neg h]; exact q
theorem Fo.or {a b : Fo} (q : (if c then a else b).sat R d us) {G : Prop} (f : c → a.sat R d us → G) (g : ¬c → b.sat R d us → G) : G :=
  if h : c then f h ((if_pos h : (if c then a else b) = a) ▸ q) else g h ((if_neg h : (if c then a else b) = b) ▸ q)
theorem Fi.or {a b : Fi} (q : (if c then a else b).sat R d us) {G : Prop} (f : c → a.sat R d us → G) (g : ¬c → b.sat R d us → G) : G :=
  if h : c then f h ((if_pos h : (if c then a else b) = a) ▸ q) else g h ((if_neg h : (if c then a else b) = b) ▸ q)
end
/-- how a leaf of a step ends -/
theorem ends {P : Dat → List Str → Prop} {d e : Dat} {us vs : List Str} (q : d = e ∧ us = vs) (h : P d us) : P e vs := q.1 ▸ q.2 ▸ h
theorem endg {P : Dat → Prop} {d e : Dat} (q : d = e) (h : P d) : P e := q ▸ h
theorem ne_tk {x : Str} {a b : Tk} (c : cls x = a) (h : a ≠ b) : cls x ≠ b := c ▸ h
section
variable {ws us us2 : List Str} {d d' d2 p : Dat} {acc : List Dat}
theorem Rd.nt (c : cls (fw ws) = .nt) (r : Rd .fac ws.tail d us) : Rd .fac ws (.list [.str (S "~"), d]) us := .mk (Fo.pos c ⟨_, _, r, rfl, rfl⟩)
theorem Rd.lp (c : cls (fw ws) = .lp) (r : Rd .rel ws.tail d us) (y : cls (fw us) = .rp) : Rd .fac ws d us.tail :=
  .mk (Fo.neg (ne_tk c (by decide)) (Fo.pos c ⟨_, _, r, Fi.pos y ⟨rfl, rfl⟩⟩))
theorem Rd.lpBad (c : cls (fw ws) = .lp) (r : Rd .rel ws.tail d us) (y : cls (fw us) ≠ .rp) : Rd .fac ws .none us :=
  .mk (Fo.neg (ne_tk c (by decide)) (Fo.pos c ⟨_, _, r, Fi.neg y ⟨rfl, rfl⟩⟩))
theorem Rd.lb (c : cls (fw ws) = .lb) (r : Rd (.set []) ws.tail d us) : Rd .fac ws d us :=
  .mk (Fo.neg (ne_tk c (by decide)) (Fo.neg (ne_tk c (by decide)) (Fo.pos c ⟨_, _, r, rfl, rfl⟩)))
theorem Rd.wd (c : cls (fw ws) = .word) : Rd .fac ws (.str (fw ws)) ws.tail :=
  .mk (Fo.neg (ne_tk c (by decide)) (Fo.neg (ne_tk c (by decide)) (Fo.neg (ne_tk c (by decide)) (Fo.pos c ⟨rfl, rfl⟩))))
theorem Rd.bad (a : cls (fw ws) ≠ .nt) (b : cls (fw ws) ≠ .lp) (c : cls (fw ws) ≠ .lb) (e : cls (fw ws) ≠ .word) : Rd .fac ws .none ws :=
  .mk (Fo.neg a (Fo.neg b (Fo.neg c (Fo.neg e ⟨rfl, rfl⟩))))
theorem Rd.setEnd (c : cls (fw ws) = .rb) : Rd (.set acc) ws (.list (.str (S "{") :: acc)) ws.tail := .mk (Fo.pos c ⟨rfl, rfl⟩)
theorem Rd.setEof (c : cls (fw ws) = .eof) : Rd (.set acc) ws .none ws := .mk (Fo.neg (ne_tk c (by decide)) (Fo.pos c ⟨rfl, rfl⟩))
theorem Rd.setComma (a : cls (fw ws) ≠ .rb) (b : cls (fw ws) ≠ .eof) (r : Rd .piece ws p us) (c : cls (fw us) = .comma) (q : Rd (.set (acc ++ [p])) us.tail d us2) : Rd (.set acc) ws d us2 :=
  .mk (Fo.neg a (Fo.neg b ⟨_, _, r, Fi.pos c ⟨_, q, rfl⟩⟩))
theorem Rd.setLast (a : cls (fw ws) ≠ .rb) (b : cls (fw ws) ≠ .eof) (r : Rd .piece ws p us) (c : cls (fw us) = .rb) : Rd (.set acc) ws (.list (.str (S "{") :: (acc ++ [p]))) us.tail :=
  .mk (Fo.neg a (Fo.neg b ⟨_, _, r, Fi.neg (ne_tk c (by decide)) (Fi.pos c ⟨rfl, rfl⟩)⟩))
theorem Rd.setBad (a : cls (fw ws) ≠ .rb) (b : cls (fw ws) ≠ .eof) (r : Rd .piece ws p us) (c : cls (fw us) ≠ .comma) (e : cls (fw us) ≠ .rb) : Rd (.set acc) ws .none us :=
  .mk (Fo.neg a (Fo.neg b ⟨_, _, r, Fi.neg c (Fi.neg e ⟨rfl, rfl⟩)⟩))
theorem Rd.pRange (r : Rd .rel ws d us) (c : cls (fw us) = .dots) (q : Rd .rel us.tail d2 us2) : Rd .piece ws (.list [.str (S ".."), d, d2]) us2 := .mk ⟨_, _, r, Fi.pos c ⟨_, q, rfl⟩⟩
theorem Rd.pOne (r : Rd .rel ws d us) (c : cls (fw us) ≠ .dots) : Rd .piece ws (.list [.str (S "one"), d]) us := .mk ⟨_, _, r, Fi.neg c ⟨rfl, rfl⟩⟩
theorem Rd.term (r : Rd .fac ws d us) (q : Rd (.termR d) us d' us2) : Rd .term ws d' us2 := .mk ⟨_, _, r, _, q, rfl⟩
theorem Rd.termStop (c : d = .none ∨ cls (fw ws) ≠ .mul) : Rd (.termR d) ws d ws := .mk (Fo.pos c ⟨rfl, rfl⟩)
theorem Rd.termGo (a : d ≠ .none) (c : cls (fw ws) = .mul) (r : Rd .fac ws.tail d2 us) (q : Rd (.termR (mk3 (fw ws) d d2)) us d' us2) : Rd (.termR d) ws d' us2 :=
  .mk (Fo.neg (fun h => h.elim a fun h => h c) ⟨_, _, r, _, q, rfl⟩)
theorem Rd.pos (c : cls (fw ws) ≠ .minus) (r : Rd .term ws d us) : Rd .signed ws d us := .mk (Fo.neg c ⟨_, _, r, rfl, rfl⟩)
theorem Rd.neg (c : cls (fw ws) = .minus) (r : Rd .term ws.tail d us) : Rd .signed ws (mk2 d) us := .mk (Fo.pos c ⟨_, _, r, rfl, rfl⟩)
theorem Rd.sum (r : Rd .signed ws d us) (q : Rd (.sumR d) us d' us2) : Rd .sum ws d' us2 := .mk ⟨_, _, r, _, q, rfl⟩
theorem Rd.sumStop (c : d = .none ∨ (cls (fw ws) ≠ .plus ∧ cls (fw ws) ≠ .minus)) : Rd (.sumR d) ws d ws := .mk (Fo.pos c ⟨rfl, rfl⟩)
theorem Rd.sumGo (a : d ≠ .none) (c : cls (fw ws) = .plus ∨ cls (fw ws) = .minus) (r : Rd .term ws.tail d2 us) (q : Rd (.sumR (mk3 (fw ws) d d2)) us d' us2) : Rd (.sumR d) ws d' us2 :=
  .mk (Fo.neg (fun h => h.elim a fun h => c.elim h.1 h.2) ⟨_, _, r, _, q, rfl⟩)
theorem Rd.rel0 (r : Rd .sum ws d us) (c : d = .none ∨ cls (fw us) ≠ .rel) : Rd .rel ws d us := .mk ⟨_, _, r, Fi.pos c ⟨rfl, rfl⟩⟩
theorem Rd.rel1 (r : Rd .sum ws d us) (a : d ≠ .none) (c : cls (fw us) = .rel) (q : Rd .sum us.tail d2 us2) : Rd .rel ws (mk3 (fw us) d d2) us2 :=
  .mk ⟨_, _, r, Fi.neg (fun h => h.elim a fun h => h c) ⟨_, q, rfl⟩⟩
end
theorem Rd.elim {P : Kd → List Str → Dat → List Str → Prop}
    (nt : ∀ {ws d us}, cls (fw ws) = .nt → Rd .fac ws.tail d us → P .fac ws.tail d us → P .fac ws (.list [.str (S "~"), d]) us)
    (lp : ∀ {ws d us}, cls (fw ws) = .lp → Rd .rel ws.tail d us → cls (fw us) = .rp → P .rel ws.tail d us → P .fac ws d us.tail)
    (lpBad : ∀ {ws d us}, cls (fw ws) = .lp → Rd .rel ws.tail d us → P .rel ws.tail d us → P .fac ws .none us)
    (lb : ∀ {ws d us}, cls (fw ws) = .lb → Rd (.set []) ws.tail d us → P (.set []) ws.tail d us → P .fac ws d us)
    (wd : ∀ {ws}, cls (fw ws) = .word → P .fac ws (.str (fw ws)) ws.tail)
    (bad : ∀ {ws}, P .fac ws .none ws)
    (setEnd : ∀ {ws acc}, cls (fw ws) = .rb → P (.set acc) ws (.list (.str (S "{") :: acc)) ws.tail)
    (setEof : ∀ {ws acc}, P (.set acc) ws .none ws)
    (setComma : ∀ {ws p us acc d us2}, Rd .piece ws p us → cls (fw us) = .comma → Rd (.set (acc ++ [p])) us.tail d us2 → P .piece ws p us → P (.set (acc ++ [p])) us.tail d us2 → P (.set acc) ws d us2)
    (setLast : ∀ {ws p us acc}, Rd .piece ws p us → cls (fw us) = .rb → P .piece ws p us → P (.set acc) ws (.list (.str (S "{") :: (acc ++ [p]))) us.tail)
    (setBad : ∀ {ws p us acc}, Rd .piece ws p us → P .piece ws p us → P (.set acc) ws .none us)
    (pRange : ∀ {ws d us d2 us2}, Rd .rel ws d us → cls (fw us) = .dots → Rd .rel us.tail d2 us2 → P .rel ws d us → P .rel us.tail d2 us2 → P .piece ws (.list [.str (S ".."), d, d2]) us2)
    (pOne : ∀ {ws d us}, P .rel ws d us → P .piece ws (.list [.str (S "one"), d]) us)
    (term : ∀ {ws d us d' us2}, Rd .fac ws d us → P .fac ws d us → P (.termR d) us d' us2 → P .term ws d' us2)
    (termStop : ∀ {ws d}, P (.termR d) ws d ws)
    (termGo : ∀ {ws d d2 us d' us2}, cls (fw ws) = .mul → Rd .fac ws.tail d2 us → P .fac ws.tail d2 us → P (.termR (mk3 (fw ws) d d2)) us d' us2 → P (.termR d) ws d' us2)
    (pos : ∀ {ws d us}, P .term ws d us → P .signed ws d us)
    (neg : ∀ {ws d us}, cls (fw ws) = .minus → P .term ws.tail d us → P .signed ws (mk2 d) us)
    (sum : ∀ {ws d us d' us2}, Rd .signed ws d us → P .signed ws d us → P (.sumR d) us d' us2 → P .sum ws d' us2)
    (sumStop : ∀ {ws d}, P (.sumR d) ws d ws)
    (sumGo : ∀ {ws d d2 us d' us2}, (cls (fw ws) = .plus ∨ cls (fw ws) = .minus) → Rd .term ws.tail d2 us → P .term ws.tail d2 us → P (.sumR (mk3 (fw ws) d d2)) us d' us2 → P (.sumR d) ws d' us2)
    (rel0 : ∀ {ws d us}, P .sum ws d us → P .rel ws d us)
    (rel1 : ∀ {ws d us d2 us2}, Rd .sum ws d us → cls (fw us) = .rel → P .sum ws d us → P .sum us.tail d2 us2 → P .rel ws (mk3 (fw us) d d2) us2)
    {k : Kd} {ws : List Str} {d : Dat} {us : List Str} (h : Rd k ws d us) : P k ws d us := by
  refine Rd.ind (P := P) (fun k ws d us h => ?_) h
  cases k with
  | fac =>
    refine Fo.or h (fun c h => ?_) fun _ h => Fo.or h (fun c h => ?_) fun _ h => Fo.or h (fun c h => ?_) fun _ h => Fo.or h (fun c h => ends h (wd c)) fun _ h => ends h bad
    · obtain ⟨d1, u1, r, h⟩ := h; exact ends h (nt c r.1 r.2)
    · obtain ⟨d1, u1, r, h⟩ := h; exact Fi.or h (fun c2 h => ends h (lp c r.1 c2 r.2)) fun _ h => ends h (lpBad c r.1 r.2)
    · obtain ⟨d1, u1, r, h⟩ := h; exact ends h (lb c r.1 r.2)
  | term => obtain ⟨d1, u1, r, d2, q, h⟩ := h; exact endg (P := fun d => P .term ws d us) h (term r.1 r.2 q.2)
  | signed =>
    refine Fo.or h (fun c h => ?_) fun _ h => ?_
    · obtain ⟨d1, u1, r, h⟩ := h; exact ends h (neg c r.2)
    · obtain ⟨d1, u1, r, h⟩ := h; exact ends h (pos r.2)
  | sum => obtain ⟨d1, u1, r, d2, q, h⟩ := h; exact endg (P := fun d => P .sum ws d us) h (sum r.1 r.2 q.2)
  | rel =>
    obtain ⟨d1, u1, r, h⟩ := h
    refine Fi.or h (fun c h => ends h (rel0 r.2)) fun c h => ?_
    obtain ⟨d2, q, h⟩ := h; exact endg (P := fun d => P .rel ws d us) h (rel1 r.1 (Classical.byContradiction fun h => c (.inr h)) r.2 q.2)
  | piece =>
    obtain ⟨d1, u1, r, h⟩ := h
    refine Fi.or h (fun c h => ?_) fun c h => ends h (pOne r.2)
    obtain ⟨d2, q, h⟩ := h; exact endg (P := fun d => P .piece ws d us) h (pRange r.1 c q.1 r.2 q.2)
  | termR e =>
    refine Fo.or h (fun c h => ends h termStop) fun c h => ?_
    obtain ⟨d1, u1, r, d2, q, h⟩ := h; exact endg (P := fun d => P (.termR e) ws d us) h (termGo (Classical.byContradiction fun h => c (.inr h)) r.1 r.2 q.2)
  | sumR e =>
    refine Fo.or h (fun c h => ends h sumStop) fun c h => ?_
    obtain ⟨d1, u1, r, d2, q, h⟩ := h; exact endg (P := fun d => P (.sumR e) ws d us) h (sumGo (Classical.byContradiction fun h => c (.inr ⟨fun e => h (.inl e), fun e => h (.inr e)⟩)) r.1 r.2 q.2)
  | set acc =>
    refine Fo.or h (fun c h => ends h (setEnd c)) fun _ h => Fo.or h (fun c h => ends h setEof) fun _ h => ?_
    obtain ⟨d1, u1, r, h⟩ := h
    refine Fi.or h (fun c h => ?_) fun _ h => Fi.or h (fun c h => ends h (setLast r.1 c r.2)) fun _ h => ends h (setBad r.1 r.2)
    obtain ⟨d2, q, h⟩ := h; exact endg (P := fun d => P (.set acc) ws d us) h (setComma r.1 c q.1 r.2 q.2)
theorem tl_suf (ws : List Str) : ws.tail <:+ ws := List.tail_suffix ws
theorem Rd.suffix {k ws d us} (h : Rd k ws d us) : us <:+ ws :=
  Rd.elim (P := fun _ ws _ us => us <:+ ws) (fun _ _ i => i.trans (tl_suf _)) (fun _ _ _ i => (tl_suf _).trans (i.trans (tl_suf _))) (fun _ _ i => i.trans (tl_suf _)) (fun _ _ i => i.trans (tl_suf _))
    (fun _ => tl_suf _) (List.suffix_refl _) (fun _ => tl_suf _) (List.suffix_refl _) (fun _ _ _ i j => j.trans ((tl_suf _).trans i)) (fun _ _ i => (tl_suf _).trans i) (fun _ i => i)
    (fun _ _ _ i j => j.trans ((tl_suf _).trans i)) (fun i => i) (fun _ i j => j.trans i) (List.suffix_refl _) (fun _ _ i j => j.trans (i.trans (tl_suf _))) (fun i => i) (fun _ i => i.trans (tl_suf _))
    (fun _ i j => j.trans i) (List.suffix_refl _) (fun _ _ i j => j.trans (i.trans (tl_suf _))) (fun i => i) (fun _ _ i j => j.trans ((tl_suf _).trans i)) h
end T_M1
section T_M2
set_option genSizeOf false in
inductive Tm where
  | leaf (x : Str)
  | neg (a : Tm)
  | nt (a : Tm)
  | bin (o : Str) (a b : Tm)
  | set0
  | set1 (p : Tm)
  | set2 (p q : Tm)
  | one (a : Tm)
  | rng (a b : Tm)
/-- the level of a binary word; what it asks of its left and its right -/
noncomputable def bl (o : Str) : Nat := match cls o with | .mul => 3 | .plus => 2 | .minus => 2 | _ => 1
noncomputable def loL (o : Str) : Nat := match cls o with | .mul => 3 | .plus => 2 | .minus => 2 | _ => 2
noncomputable def hiL (o : Str) : Nat := match cls o with | .mul => 4 | .plus => 3 | .minus => 3 | _ => 2
noncomputable def isBin (o : Str) : Prop := cls o = .mul ∨ cls o = .plus ∨ cls o = .minus ∨ cls o = .rel
section
variable {o : Str}
theorem lv_mul (c : cls o = .mul) : bl o = 3 ∧ loL o = 3 ∧ hiL o = 4 := by unfold bl loL hiL; rw [c]; exact ⟨rfl, rfl, rfl⟩
theorem lv_sum (c : cls o = .plus ∨ cls o = .minus) : bl o = 2 ∧ loL o = 2 ∧ hiL o = 3 := by unfold bl loL hiL; rcases c with c | c <;> (rw [c]; exact ⟨rfl, rfl, rfl⟩)
theorem lv_rel (c : cls o = .rel) : bl o = 1 ∧ loL o = 2 ∧ hiL o = 2 := by unfold bl loL hiL; rw [c]; exact ⟨rfl, rfl, rfl⟩
theorem isBin.ne {k : Tk} (h : isBin o) (q : k ≠ .mul ∧ k ≠ .plus ∧ k ≠ .minus ∧ k ≠ .rel) : cls o ≠ k := fun e => by
  rcases h with h | h | h | h
  · exact q.1 (e.symm.trans h)
  · exact q.2.1 (e.symm.trans h)
  · exact q.2.2.1 (e.symm.trans h)
  · exact q.2.2.2 (e.symm.trans h)
end
noncomputable def Tm.lev : Tm → Nat
  | .neg _ => 2
  | .bin o _ _ => bl o
  | _ => 4
/-- well made: b tells a piece of a set from an expression -/
noncomputable def Tm.Wf : Bool → Tm → Prop
  | false, .leaf x => cls x = .word
  | false, .neg a => a.Wf false
  | false, .nt a => a.Wf false
  | false, .bin o a b => isBin o ∧ a.Wf false ∧ b.Wf false
  | false, .set0 => True
  | false, .set1 p => p.Wf true
  | false, .set2 p q => p.Wf true ∧ q.Wf true
  | true, .one a => a.Wf false
  | true, .rng a b => a.Wf false ∧ b.Wf false
  | _, _ => False
noncomputable def par (b : Bool) (ws : List Str) : List Str := if b then S "(" :: (ws ++ [S ")"]) else ws
noncomputable def Tm.wd : Tm → Nat → List Str
  | .leaf x, _ => [x]
  | .neg a, l => par (decide (2 < l)) (S "-" :: a.wd 3)
  | .nt a, _ => S "~" :: a.wd 4
  | .bin o a b, l => par (decide (bl o < l)) (a.wd (loL o) ++ o :: b.wd (hiL o))
  | .set0, _ => [S "{", S "}"]
  | .set1 p, _ => S "{" :: (p.wd 0 ++ [S "}"])
  | .set2 p q, _ => S "{" :: (p.wd 0 ++ S "," :: (q.wd 0 ++ [S "}"]))
  | .one a, _ => a.wd 1
  | .rng a b, _ => a.wd 1 ++ S ".." :: b.wd 1
noncomputable def Tm.pl : Tm → Dat
  | .leaf x => .str x
  | .neg a => .list [.str (S "-"), a.pl]
  | .nt a => .list [.str (S "~"), a.pl]
  | .bin o a b => .list [.str o, a.pl, b.pl]
  | .set0 => .list [.str (S "{")]
  | .set1 p => .list [.str (S "{"), p.pl]
  | .set2 p q => .list [.str (S "{"), p.pl, q.pl]
  | .one a => .list [.str (S "one"), a.pl]
  | .rng a b => .list [.str (S ".."), a.pl, b.pl]
noncomputable def nb (b : Bool) : Nat := if b then 1 else 0
/-- how many pairs of brackets it needs -/
noncomputable def Tm.nd : Tm → Nat → Nat
  | .leaf _, _ => 0
  | .neg a, l => nb (decide (2 < l)) + a.nd 3
  | .nt a, _ => a.nd 4
  | .bin o a b, l => nb (decide (bl o < l)) + a.nd (loL o) + b.nd (hiL o)
  | .set0, _ => 0
  | .set1 p, _ => p.nd 0
  | .set2 p q, _ => p.nd 0 + q.nd 0
  | .one a, _ => a.nd 1
  | .rng a b, _ => a.nd 1 + b.nd 1
/-- the parts of a list of data -/
noncomputable def dl : Dat → List Dat
  | .list l => l
  | _ => []
noncomputable def dn (d : Dat) : Nat := (dl d).length
noncomputable def d0 (d : Dat) : Dat := (dl d).headD .none
noncomputable def d1 (d : Dat) : Dat := (dl d).tail.headD .none
noncomputable def d2 (d : Dat) : Dat := (dl d).tail.tail.headD .none
theorem n10 : (1 : Nat) ≠ 0 ∧ (2 : Nat) ≠ 0 ∧ (3 : Nat) ≠ 0 ∧ (3 : Nat) ≠ 1 ∧ (3 : Nat) ≠ 2 ∧ (2 : Nat) ≠ 1 ∧ (2 : Nat) ≠ 3 := by decide
theorem Tm.pl_ne (T : Tm) : T.pl ≠ .none := fun e => match T, e with
  | .leaf _, e => nomatch e
  | .neg _, e => n10.2.1 (congrArg dn e)
  | .nt _, e => n10.2.1 (congrArg dn e)
  | .bin _ _ _, e => n10.2.2.1 (congrArg dn e)
  | .set0, e => n10.1 (congrArg dn e)
  | .set1 _, e => n10.2.1 (congrArg dn e)
  | .set2 _ _, e => n10.2.2.1 (congrArg dn e)
  | .one _, e => n10.2.1 (congrArg dn e)
  | .rng _ _, e => n10.2.2.1 (congrArg dn e)
noncomputable def cnt (ws : List Str) : Nat := ws.countP (fun x => x = S "(")
theorem cnt_nil : cnt [] = 0 := rfl
theorem cnt_cons (x : Str) (ws : List Str) : cnt (x :: ws) = cnt ws + (if x = S "(" then 1 else 0) := by
  unfold cnt; rw [List.countP_cons]
  by_cases h : x = S "("
  · rw [if_pos h, if_pos (decide_eq_true h)]
  · rw [if_neg h, if_neg (fun e => h (of_decide_eq_true e))]
theorem cnt_app (a b : List Str) : cnt (a ++ b) = cnt a + cnt b := List.countP_append
theorem nb1 (b : Bool) : nb b ≤ 1 := by cases b <;> decide
theorem nbx (b c : Bool) (x : Nat) : nb b + x ≤ nb c + x + 1 :=
  Nat.le_trans (Nat.add_le_add_right (nb1 b) x) (by rw [Nat.add_comm 1 x]; exact Nat.succ_le_succ (Nat.le_add_left _ _))
theorem nbu {p q : Prop} [Decidable p] [Decidable q] (h : p → q) : nb (decide p) ≤ nb (decide q) := by
  by_cases a : p
  · rw [decide_eq_true a, decide_eq_true (h a)]; exact Nat.le_refl _
  · rw [decide_eq_false a]; exact Nat.zero_le _
theorem nd_le (T : Tm) (l k : Nat) : T.nd l ≤ T.nd k + 1 := match T with
  | .neg a => nbx _ _ _
  | .bin o a b => by
    show nb _ + _ + _ ≤ nb _ + _ + _ + 1
    rw [Nat.add_assoc, Nat.add_assoc (nb _)]; exact nbx _ _ _
  | .leaf _ => Nat.le_succ _
  | .nt _ => Nat.le_succ _
  | .set0 => Nat.le_succ _
  | .set1 _ => Nat.le_succ _
  | .set2 _ _ => Nat.le_succ _
  | .one _ => Nat.le_succ _
  | .rng _ _ => Nat.le_succ _
theorem nd_up (T : Tm) {l k : Nat} (h : l ≤ k) : T.nd l ≤ T.nd k := match T with
  | .neg a => Nat.add_le_add_right (nbu fun q => Nat.lt_of_lt_of_le q h) _
  | .bin o a b => Nat.add_le_add_right (Nat.add_le_add_right (nbu fun q => Nat.lt_of_lt_of_le q h) _) _
  | .leaf _ => Nat.le_refl _
  | .nt _ => Nat.le_refl _
  | .set0 => Nat.le_refl _
  | .set1 _ => Nat.le_refl _
  | .set2 _ _ => Nat.le_refl _
  | .one _ => Nat.le_refl _
  | .rng _ _ => Nat.le_refl _
theorem lp_ne {x : Str} (h : cls x ≠ .lp) : ¬ x = S "(" := fun e => h (cls_lp.mpr e)

/-- what a run that hands back T's data must eat of brackets -/
noncomputable def eat1 (b : Bool) (l : Nat) (ws : List Str) (d : Dat) (us : List Str) : Prop := ∀ T : Tm, T.Wf b → d = T.pl → cnt us + T.nd l ≤ cnt ws
noncomputable def eat2 (l : Nat) (e : Dat) (ws : List Str) (d : Dat) (us : List Str) : Prop := ∀ T : Tm, T.Wf false → d = T.pl → ∃ T₀ : Tm, T₀.Wf false ∧ e = T₀.pl ∧ cnt us + T.nd l ≤ cnt ws + T₀.nd l
noncomputable def nds : List Tm → Nat
  | [] => 0
  | T :: r => T.nd 0 + nds r
noncomputable def Kd.Eats : Run
  | .fac => eat1 false 4
  | .term => eat1 false 3
  | .signed => eat1 false 2
  | .sum => eat1 false 2
  | .rel => eat1 false 1
  | .piece => eat1 true 0
  | .termR e => eat2 3 e
  | .sumR e => eat2 2 e
  | .set acc => fun ws d us => ∃ ds : List Dat, (d = .none ∨ d = .list (.str (S "{") :: (acc ++ ds))) ∧ (d ≠ .none → ∀ Ts : List Tm, (∀ T ∈ Ts, T.Wf true) → ds = Ts.map Tm.pl → cnt us + nds Ts ≤ cnt ws)
theorem mk3_ne {x : Str} {d e : Dat} (h : e ≠ .none) : mk3 x d e = .list [.str x, d, e] := by
  cases e with
  | none => exact absurd rfl h
  | _ => rfl
theorem mk2_ne {d : Dat} (h : d ≠ .none) : mk2 d = .list [.str (S "-"), d] := by
  cases d with
  | none => exact absurd rfl h
  | _ => rfl
theorem pl_mk3 {x : Str} {d e : Dat} {T : Tm} (hx : isBin x) (h : mk3 x d e = T.pl) : ∃ a b, T = .bin x a b ∧ d = a.pl ∧ e = b.pl := by
  have ne : e ≠ .none := by rintro rfl; exact T.pl_ne h.symm
  rw [mk3_ne ne] at h
  have s0 : ∀ {y : Str}, Dat.str x = .str y → x = y := fun e => Dat.str.inj e
  exact match T, h with
  | .bin o a b, h => ⟨a, b, by rw [s0 (congrArg d0 h)], congrArg d1 h, congrArg d2 h⟩
  | .set2 p q, h => absurd (cls_lb.mpr (s0 (congrArg d0 h))) (hx.ne (by decide))
  | .rng p q, h => absurd (cls_dots.mpr (s0 (congrArg d0 h))) (hx.ne (by decide))
  | .leaf _, h => absurd (congrArg dn h) n10.2.2.1
  | .neg _, h => absurd (congrArg dn h) n10.2.2.2.2.1
  | .nt _, h => absurd (congrArg dn h) n10.2.2.2.2.1
  | .set0, h => absurd (congrArg dn h) n10.2.2.2.1
  | .set1 _, h => absurd (congrArg dn h) n10.2.2.2.2.1
  | .one _, h => absurd (congrArg dn h) n10.2.2.2.2.1
theorem ne_lits : S "~" ≠ S "-" ∧ S "~" ≠ S "{" ∧ S "~" ≠ S "one" ∧ S "-" ≠ S "{" ∧ S "-" ≠ S "one" ∧ S "{" ≠ S "-" ∧ S "{" ≠ S "~" ∧ S "{" ≠ S "one" ∧ S "{" ≠ S ".." := by decide +kernel
theorem str_ne {x y : Str} (n : x ≠ y) {C : Prop} (e : Dat.str x = .str y) : C := absurd (Dat.str.inj e) n
theorem pl_nt {d : Dat} {T : Tm} (w : T.Wf false) (h : Dat.list [.str (S "~"), d] = T.pl) : ∃ a, T = .nt a ∧ d = a.pl := match T, w, h with
  | .nt a, _, h => ⟨a, rfl, congrArg d1 h⟩
  | .neg _, _, h => str_ne ne_lits.1 (congrArg d0 h)
  | .set1 _, _, h => str_ne ne_lits.2.1 (congrArg d0 h)
  | .leaf _, _, h => absurd (congrArg dn h) n10.2.1
  | .bin _ _ _, _, h => absurd (congrArg dn h) n10.2.2.2.2.2.2
  | .set0, _, h => absurd (congrArg dn h) n10.2.2.2.2.2.1
  | .set2 _ _, _, h => absurd (congrArg dn h) n10.2.2.2.2.2.2
  | .one _, w, _ => w.elim
  | .rng _ _, w, _ => w.elim
theorem pl_mk2 {d : Dat} {T : Tm} (w : T.Wf false) (h : mk2 d = T.pl) : ∃ a, T = .neg a ∧ d = a.pl := by
  have ne : d ≠ .none := by rintro rfl; exact T.pl_ne h.symm
  rw [mk2_ne ne] at h
  exact match T, w, h with
  | .neg a, _, h => ⟨a, rfl, congrArg d1 h⟩
  | .nt _, _, h => str_ne ne_lits.1.symm (congrArg d0 h)
  | .set1 _, _, h => str_ne ne_lits.2.2.2.1 (congrArg d0 h)
  | .leaf _, _, h => absurd (congrArg dn h) n10.2.1
  | .bin _ _ _, _, h => absurd (congrArg dn h) n10.2.2.2.2.2.2
  | .set0, _, h => absurd (congrArg dn h) n10.2.2.2.2.2.1
  | .set2 _ _, _, h => absurd (congrArg dn h) n10.2.2.2.2.2.2
  | .one _, w, _ => w.elim
  | .rng _ _, w, _ => w.elim
theorem pl_set {ds : List Dat} {T : Tm} (w : T.Wf false) (h : Dat.list (.str (S "{") :: ds) = T.pl) : ∃ Ts : List Tm, (∀ U ∈ Ts, U.Wf true) ∧ ds = Ts.map Tm.pl ∧ ∀ l, T.nd l = nds Ts := match T, w, h with
  | .set0, _, h => ⟨[], (fun _ h => nomatch h), congrArg (fun d => (dl d).tail) h, fun _ => rfl⟩
  | .set1 p, w, h => ⟨[p], (fun U m => List.mem_singleton.mp m ▸ w), congrArg (fun d => (dl d).tail) h, fun _ => rfl⟩
  | .set2 p r, w, h => ⟨[p, r], List.forall_mem_cons.mpr ⟨w.1, fun U m => List.mem_singleton.mp m ▸ w.2⟩, congrArg (fun d => (dl d).tail) h, fun _ => rfl⟩
  | .bin o a b, w, h => absurd (cls_lb.mpr (Dat.str.inj (congrArg d0 h)).symm) (w.1.ne (by decide))
  | .leaf _, _, h => nomatch (show Dat.list _ = Dat.str _ from h)
  | .neg _, _, h => str_ne ne_lits.2.2.2.2.2.1 (congrArg d0 h)
  | .nt _, _, h => str_ne ne_lits.2.2.2.2.2.2.1 (congrArg d0 h)
  | .one _, w, _ => w.elim
  | .rng _ _, w, _ => w.elim
theorem pl_piece1 {d : Dat} {T : Tm} (w : T.Wf true) (h : Dat.list [.str (S "one"), d] = T.pl) : ∃ a, T = .one a ∧ d = a.pl := match T, w, h with
  | .one a, _, h => ⟨a, rfl, congrArg d1 h⟩
  | .rng _ _, _, h => absurd (congrArg dn h) n10.2.2.2.2.2.2
theorem pl_piece2 {d e : Dat} {T : Tm} (w : T.Wf true) (h : Dat.list [.str (S ".."), d, e] = T.pl) : ∃ a b, T = .rng a b ∧ d = a.pl ∧ e = b.pl := match T, w, h with
  | .one a, _, h => absurd (congrArg dn h) n10.2.2.2.2.1
  | .rng a b, _, h => ⟨a, b, rfl, congrArg d1 h, congrArg d2 h⟩
theorem cnt_ne {x : Str} (h : cls x ≠ .lp) (ws : List Str) : cnt (x :: ws) = cnt ws := by rw [cnt_cons, if_neg (lp_ne h)]; rfl
theorem cnt_lp {x : Str} (h : cls x = .lp) (ws : List Str) : cnt (x :: ws) = cnt ws + 1 := by rw [cnt_cons, if_pos (cls_lp.mp h)]
theorem cnt_tl : ∀ ws : List Str, cnt ws.tail ≤ cnt ws
  | [] => Nat.le_refl _
  | x :: ws => by rw [cnt_cons]; exact Nat.le_add_right _ _
theorem cnt_t1 : ∀ {ws : List Str}, cls (fw ws) = .lp → cnt ws = cnt ws.tail + 1
  | [], h => by have e : S "" = S "(" := cls_lp.mp h; exact absurd e (by decide +kernel)
  | x :: ws, h => cnt_lp h ws
theorem ar1 {u t s v w : Nat} (b : u + s ≤ v) (a : v + t ≤ w) : u + (t + s) ≤ w := by
  rw [Nat.add_comm t s, ← Nat.add_assoc]; exact Nat.le_trans (Nat.add_le_add_right b t) a
theorem ar2 {u a b w : Nat} (h : u + b ≤ w) : u + (a + b) ≤ w + a := by
  rw [Nat.add_comm a b, ← Nat.add_assoc]; exact Nat.add_le_add_right h a
theorem nd_bin {o : Str} {a b : Tm} {x y z : Nat} (h : bl o = x ∧ loL o = y ∧ hiL o = z) (l : Nat) : (Tm.bin o a b).nd l = nb (decide (x < l)) + a.nd y + b.nd z := by
  show nb (decide (bl o < l)) + a.nd (loL o) + b.nd (hiL o) = _
  rw [h.1, h.2.1, h.2.2]
theorem nd_bin0 {o : Str} {a b : Tm} {x y z : Nat} (h : bl o = x ∧ loL o = y ∧ hiL o = z) : (Tm.bin o a b).nd x = a.nd y + b.nd z := by
  rw [nd_bin h, decide_eq_false (Nat.lt_irrefl x)]; exact congrArg (· + _) (Nat.zero_add _)
theorem Rd.eats {k ws d us} (h : Rd k ws d us) : k.Eats ws d us := by
  have none : ∀ {b l ws us}, eat1 b l ws .none us := fun T _ e => absurd e.symm T.pl_ne
  have stop : ∀ {l e ws}, eat2 l e ws e ws := fun T w e => ⟨T, w, e, Nat.le_refl _⟩
  have tl {a b c : Nat} {us ws : List Str} (h : cnt us + a ≤ cnt ws.tail) : cnt us + a ≤ cnt ws := Nat.le_trans h (cnt_tl ws)
  have up (T : Tm) {l k : Nat} {us ws : List Str} (q : l ≤ k) (h : cnt us + T.nd k ≤ cnt ws) : cnt us + T.nd l ≤ cnt ws := Nat.le_trans (Nat.add_le_add_left (nd_up T q) _) h
  have setNo : ∀ {acc ws us}, Kd.Eats (.set acc) ws .none us := fun {acc ws us} => ⟨[], .inl rfl, fun n => absurd rfl n⟩
  refine Rd.elim (P := Kd.Eats) ?nt ?lp (fun _ _ _ => none) ?lb ?wd none ?setEnd setNo ?setComma ?setLast (fun _ _ => setNo) ?pRange ?pOne ?term stop ?termGo ?pos ?neg ?sum stop ?sumGo ?rel0 ?rel1 h
  case nt =>
    intro ws d us c _ ih T w e
    obtain ⟨a, rfl, rfl⟩ := pl_nt w e
    exact Nat.le_trans (ih a w rfl) (cnt_tl ws)
  case lp =>
    intro ws d us c _ _ ih T w e
    rw [cnt_t1 c]
    exact Nat.le_trans (Nat.add_le_add (cnt_tl us) (nd_le T 4 1)) (Nat.succ_le_succ (ih T w e))
  case lb =>
    intro ws d us c _ i T w e
    obtain ⟨ds, h1, h2⟩ := i
    rcases h1 with h1 | h1
    · exact absurd (h1.symm.trans e).symm T.pl_ne
    · obtain ⟨Ts, t1, t2, t3⟩ := pl_set w (h1.symm.trans e)
      rw [t3]
      exact Nat.le_trans (h2 (fun q => T.pl_ne (e.symm.trans q)) Ts t1 t2) (cnt_tl ws)
  case wd =>
    intro ws c T w e
    exact match T, e with
    | .leaf _, _ => cnt_tl ws
    | .neg _, e => absurd (congrArg dn e).symm n10.2.1
    | .nt _, e => absurd (congrArg dn e).symm n10.2.1
    | .bin _ _ _, e => absurd (congrArg dn e).symm n10.2.2.1
    | .set0, e => absurd (congrArg dn e).symm n10.1
    | .set1 _, e => absurd (congrArg dn e).symm n10.2.1
    | .set2 _ _, e => absurd (congrArg dn e).symm n10.2.2.1
    | .one _, e => absurd (congrArg dn e).symm n10.2.1
    | .rng _ _, e => absurd (congrArg dn e).symm n10.2.2.1
  case setEnd =>
    intro ws acc c
    refine ⟨[], .inr (by rw [List.append_nil]), fun _ Ts _ e => ?_⟩
    rw [List.map_eq_nil_iff.mp e.symm]
    exact cnt_tl ws
  case setComma =>
    intro ws p us acc d us2 r c r2 i1 i2
    obtain ⟨ds, h1, h2⟩ := i2
    refine ⟨p :: ds, h1.imp id (fun e => by rw [e, List.append_assoc]; rfl), fun n Ts t1 t2 => ?_⟩
    cases Ts with
    | nil => cases t2
    | cons T Ts =>
      obtain ⟨e1, e2⟩ := List.cons.inj t2
      exact ar1 (Nat.le_trans (h2 n Ts (fun U hU => t1 U (.tail _ hU)) e2) (cnt_tl us)) (i1 T (t1 T (.head _)) e1)
  case setLast =>
    intro ws p us acc r c i1
    refine ⟨[p], .inr rfl, fun _ Ts t1 t2 => ?_⟩
    cases Ts with
    | nil => cases t2
    | cons T Ts =>
      obtain ⟨e1, e2⟩ := List.cons.inj t2
      rw [List.map_eq_nil_iff.mp e2.symm]
      exact Nat.le_trans (Nat.add_le_add_right (cnt_tl us) _) (i1 T (t1 T (.head _)) e1)
  case pRange =>
    intro ws d us e us2 _ c _ i1 i2 T w q
    obtain ⟨a, b, rfl, rfl, rfl⟩ := pl_piece2 w q
    exact ar1 (Nat.le_trans (i2 b w.2 rfl) (cnt_tl us)) (i1 a w.1 rfl)
  case pOne =>
    intro ws d us i T w e
    obtain ⟨a, rfl, rfl⟩ := pl_piece1 w e
    exact i a w rfl
  case term =>
    intro ws d us d' us2 _ i1 i2 T w e
    obtain ⟨T₀, w0, rfl, q⟩ := i2 T w e
    exact Nat.le_trans q (up T₀ (by decide) (i1 T₀ w0 rfl))
  case termGo =>
    intro ws d e us d' us2 c _ i1 i2 T w q
    obtain ⟨T₁, w1, e1, q⟩ := i2 T w q
    obtain ⟨a, b, rfl, rfl, rfl⟩ := pl_mk3 (.inl c) e1
    rw [nd_bin0 (lv_mul c)] at q
    exact ⟨a, w1.2.1, rfl, Nat.le_trans q (ar2 (Nat.le_trans (i1 b w1.2.2 rfl) (cnt_tl ws)))⟩
  case pos => intro ws d us i T w e; exact up T (by decide) (i T w e)
  case neg =>
    intro ws d us c i T w e
    obtain ⟨a, rfl, rfl⟩ := pl_mk2 w e
    show _ + (0 + _) ≤ _
    rw [Nat.zero_add]
    exact Nat.le_trans (i a w rfl) (cnt_tl ws)
  case sum =>
    intro ws d us d' us2 _ i1 i2 T w e
    obtain ⟨T₀, w0, rfl, q⟩ := i2 T w e
    exact Nat.le_trans q (i1 T₀ w0 rfl)
  case sumGo =>
    intro ws d e us d' us2 c _ i1 i2 T w q
    obtain ⟨T₁, w1, e1, q⟩ := i2 T w q
    obtain ⟨a, b, rfl, rfl, rfl⟩ := pl_mk3 (.inr (c.imp id .inl)) e1
    rw [nd_bin0 (lv_sum c)] at q
    exact ⟨a, w1.2.1, rfl, Nat.le_trans q (ar2 (Nat.le_trans (i1 b w1.2.2 rfl) (cnt_tl ws)))⟩
  case rel0 => intro ws d us i T w e; exact up T (by decide) (i T w e)
  case rel1 =>
    intro ws d us e us2 _ c i1 i2 T w q
    obtain ⟨a, b, rfl, rfl, rfl⟩ := pl_mk3 (.inr (.inr (.inr c))) q
    rw [nd_bin0 (lv_rel c)]
    exact ar1 (Nat.le_trans (i2 b w.2.2 rfl) (cnt_tl us)) (i1 a w.2.1 rfl)
end T_M2
section T_M3
theorem cls_lit : cls (S "(") = .lp ∧ cls (S ")") = .rp ∧ cls (S "{") = .lb ∧ cls (S "}") = .rb ∧ cls (S ",") = .comma ∧ cls (S "..") = .dots ∧ cls (S "-") = .minus ∧ cls (S "~") = .nt := by decide +kernel
theorem wd_bin {o : Str} {a b : Tm} {x y z : Nat} (h : bl o = x ∧ loL o = y ∧ hiL o = z) (l : Nat) : (Tm.bin o a b).wd l = par (decide (x < l)) (a.wd y ++ o :: b.wd z) := by
  show par (decide (bl o < l)) (a.wd (loL o) ++ o :: b.wd (hiL o)) = _
  rw [h.1, h.2.1, h.2.2]
/-- an induction over well made trees -/
theorem Tm.ind {P : Bool → Tm → Prop} (leaf : ∀ x, cls x = .word → P false (.leaf x)) (neg : ∀ a, a.Wf false → P false a → P false (.neg a)) (nt : ∀ a, a.Wf false → P false a → P false (.nt a))
    (bin : ∀ o a b, isBin o → a.Wf false → b.Wf false → P false a → P false b → P false (.bin o a b)) (set0 : P false .set0) (set1 : ∀ p, p.Wf true → P true p → P false (.set1 p))
    (set2 : ∀ p q, p.Wf true → q.Wf true → P true p → P true q → P false (.set2 p q)) (one : ∀ a, a.Wf false → P false a → P true (.one a)) (rng : ∀ a b, a.Wf false → b.Wf false → P false a → P false b → P true (.rng a b)) :
    ∀ (T : Tm) (b : Bool), T.Wf b → P b T := fun T => by
  induction T with
  | leaf x => exact fun b => b.casesOn (leaf x) False.elim
  | neg a i => exact fun b => b.casesOn (fun w => neg a w (i _ w)) False.elim
  | nt a i => exact fun b => b.casesOn (fun w => nt a w (i _ w)) False.elim
  | bin o a b i j => exact fun c => c.casesOn (fun w => bin o a b w.1 w.2.1 w.2.2 (i _ w.2.1) (j _ w.2.2)) False.elim
  | set0 => exact fun b => b.casesOn (fun _ => set0) False.elim
  | set1 p i => exact fun b => b.casesOn (fun w => set1 p w (i _ w)) False.elim
  | set2 p q i j => exact fun b => b.casesOn (fun w => set2 p q w.1 w.2 (i _ w.1) (j _ w.2)) False.elim
  | one a i => exact fun b => b.casesOn False.elim (fun w => one a w (i _ w))
  | rng a b i j => exact fun c => c.casesOn False.elim (fun w => rng a b w.1 w.2 (i _ w.1) (j _ w.2))
theorem cnt_par (b : Bool) (ws : List Str) : cnt (par b ws) = nb b + cnt ws := by
  cases b with
  | false => exact (Nat.zero_add _).symm
  | true =>
    show cnt (S "(" :: (ws ++ [S ")"])) = 1 + cnt ws
    rw [cnt_lp cls_lit.1, cnt_app, cnt_ne (ne_tk cls_lit.2.1 (by decide)), cnt_nil, Nat.add_comm]; rfl
theorem cnt_wd : ∀ (T : Tm) (b : Bool), T.Wf b → ∀ l, cnt (T.wd l) = T.nd l := by
  obtain ⟨k1, k2, k3, k4, k5, k6, k7, k8⟩ := cls_lit
  refine Tm.ind (P := fun _ T => ∀ l, cnt (T.wd l) = T.nd l) ?_ ?_ ?_ ?_ ?_ ?_ ?_ ?_ ?_
  · exact fun x w l => cnt_ne (ne_tk w (by decide)) _
  · exact fun a _ i l => (cnt_par _ _).trans (congrArg (nb _ + ·) ((cnt_ne (ne_tk k7 (by decide)) _).trans (i 3)))
  · exact fun a _ i l => (cnt_ne (ne_tk k8 (by decide)) _).trans (i 4)
  · intro o a b w _ _ i j l
    refine (cnt_par _ _).trans ?_
    rw [cnt_app, cnt_ne (w.ne (by decide)), i, j, ← Nat.add_assoc]; rfl
  · exact fun l => (cnt_ne (ne_tk k3 (by decide)) _).trans (cnt_ne (ne_tk k4 (by decide)) _)
  · intro p _ i l
    refine (cnt_ne (ne_tk k3 (by decide)) _).trans ?_
    rw [cnt_app, cnt_ne (ne_tk k4 (by decide)), i]; rfl
  · intro p q _ _ i j l
    refine (cnt_ne (ne_tk k3 (by decide)) _).trans ?_
    rw [cnt_app, cnt_ne (ne_tk k5 (by decide)), cnt_app, cnt_ne (ne_tk k4 (by decide)), i, j]; rfl
  · exact fun a _ i l => i 1
  · intro a b _ _ i j l
    show cnt (a.wd 1 ++ S ".." :: b.wd 1) = _
    rw [cnt_app, cnt_ne (ne_tk k6 (by decide)), i, j]; rfl

noncomputable def isHead (k : Tk) : Prop := k ∈ [Tk.word, .minus, .nt, .lp, .lb]
theorem isHead.ne {k j : Tk} (h : isHead k) (n : j ∉ [Tk.word, .minus, .nt, .lp, .lb]) : k ≠ j := fun e => n (e ▸ h)
theorem hd_wd : ∀ (T : Tm) (b : Bool), T.Wf b → ∀ (l : Nat) (rest : List Str), isHead (cls (fw (T.wd l ++ rest))) ∧ (b = false → 3 ≤ l → cls (fw (T.wd l ++ rest)) ≠ .minus) := by
  obtain ⟨k1, k2, k3, k4, k5, k6, k7, k8⟩ := cls_lit
  have H {x : Str} {k : Tk} (c : cls x = k) (h : k ∈ [Tk.word, .minus, .nt, .lp, .lb]) (n : k ≠ .minus) {A B : Prop} : isHead (cls x) ∧ (A → B → cls x ≠ .minus) := ⟨c.symm ▸ h, fun _ _ => ne_tk c n⟩
  refine Tm.ind (P := fun b T => ∀ (l : Nat) (rest : List Str), isHead (cls (fw (T.wd l ++ rest))) ∧ (b = false → 3 ≤ l → cls (fw (T.wd l ++ rest)) ≠ .minus)) ?_ ?_ ?_ ?_ ?_ ?_ ?_ ?_ ?_
  · exact fun x w l rest => H w (by decide) (by decide)
  · intro a _ _ l rest
    show isHead (cls (fw (par (decide (2 < l)) (S "-" :: a.wd 3) ++ rest))) ∧ (_ → _ → cls (fw (par (decide (2 < l)) (S "-" :: a.wd 3) ++ rest)) ≠ .minus)
    cases h : decide (2 < l) with
    | true => exact H k1 (by decide) (by decide)
    | false =>
      refine ⟨?_, fun _ q => absurd q (of_decide_eq_false h)⟩
      show isHead (cls (S "-"))
      rw [k7]; exact (by decide : Tk.minus ∈ [Tk.word, .minus, .nt, .lp, .lb])
  · exact fun a _ _ l rest => H k8 (by decide) (by decide)
  · intro o a b w _ _ i _ l rest
    show isHead (cls (fw (par (decide (bl o < l)) (a.wd (loL o) ++ o :: b.wd (hiL o)) ++ rest))) ∧ (_ → _ → cls (fw (par (decide (bl o < l)) (a.wd (loL o) ++ o :: b.wd (hiL o)) ++ rest)) ≠ .minus)
    cases h : decide (bl o < l) with
    | true => exact H k1 (by decide) (by decide)
    | false =>
      have q := i (loL o) (o :: b.wd (hiL o) ++ rest)
      rw [← List.append_assoc] at q
      refine ⟨q.1, fun _ h3 => q.2 rfl ?_⟩
      have z := of_decide_eq_false h
      rcases w with c | c | c | c
      · rw [(lv_mul c).2.1]; decide
      · rw [(lv_sum (.inl c)).1] at z; exact absurd h3 z
      · rw [(lv_sum (.inr c)).1] at z; exact absurd h3 z
      · rw [(lv_rel c).1] at z; exact absurd (Nat.lt_of_succ_lt h3) z
  · exact fun l rest => H k3 (by decide) (by decide)
  · exact fun p _ _ l rest => H k3 (by decide) (by decide)
  · exact fun p q _ _ _ _ l rest => H k3 (by decide) (by decide)
  · exact fun a _ i l rest => ⟨(i 1 rest).1, fun h => nomatch h⟩
  · intro a b _ _ i _ l rest
    have q := (i 1 (S ".." :: b.wd 1 ++ rest)).1
    rw [← List.append_assoc] at q
    exact ⟨q, fun h => nomatch h⟩

noncomputable def P4 (T : Tm) : Prop := ∀ rest, Rd .fac (T.wd 4 ++ rest) T.pl rest
noncomputable def P3 (T : Tm) : Prop := ∀ rest d w, Rd (.termR T.pl) rest d w → Rd .term (T.wd 3 ++ rest) d w
noncomputable def P2 (T : Tm) : Prop := ∀ rest d w, cls (fw rest) ≠ .mul → Rd (.sumR T.pl) rest d w → Rd .sum (T.wd 2 ++ rest) d w
/-- behind a whole expression -/
structure Out (k : Tk) : Prop where
  m : k ≠ .mul
  p : k ≠ .plus
  n : k ≠ .minus
  r : k ≠ .rel
noncomputable def P1 (T : Tm) : Prop := ∀ rest, Out (cls (fw rest)) → Rd .rel (T.wd 1 ++ rest) T.pl rest
noncomputable def P0 (T : Tm) : Prop := ∀ rest, (cls (fw rest) = .comma ∨ cls (fw rest) = .rb) → Rd .piece (T.wd 0 ++ rest) T.pl rest
structure PP (T : Tm) : Prop where
  p4 : P4 T
  p3 : P3 T
  p2 : P2 T
  p1 : P1 T
theorem p3_of {T : Tm} (e : T.wd 3 = T.wd 4) (h : P4 T) : P3 T := fun rest d w c => by rw [e]; exact .term (h rest) c
theorem p2_of {T : Tm} (w : T.Wf false) (e : T.wd 2 = T.wd 3) (h : P3 T) : P2 T := fun rest d u hm c => by
  rw [e]; exact .sum (.pos ((hd_wd T false w 3 rest).2 rfl (Nat.le_refl _)) (h rest _ _ (.termStop (.inr hm)))) c
theorem p1_of {T : Tm} (e : T.wd 1 = T.wd 2) (h : P2 T) : P1 T := fun rest o => by
  rw [e]; exact .rel0 (h rest _ _ o.m (.sumStop (.inr ⟨o.p, o.n⟩))) (.inr o.r)
theorem out {k : Tk} (h : k ∈ [Tk.rp, .comma, .rb, .dots, .eof]) : Out k :=
  ⟨fun e => by subst e; exact absurd h (by decide), fun e => by subst e; exact absurd h (by decide), fun e => by subst e; exact absurd h (by decide), fun e => by subst e; exact absurd h (by decide)⟩
theorem p4_of {T : Tm} (e : T.wd 4 = S "(" :: (T.wd 1 ++ [S ")"])) (h : P1 T) : P4 T := fun rest => by
  obtain ⟨k1, k2, _⟩ := cls_lit
  rw [e, List.cons_append, List.append_assoc]
  exact .lp (us := S ")" :: rest) k1 (h (S ")" :: rest) (k2 ▸ out (by decide))) k2
theorem PP.four {T : Tm} (w : T.Wf false) (e : ∀ l, T.wd l = T.wd 4) (h : P4 T) : PP T :=
  have h3 := p3_of (e 3) h
  have h2 := p2_of w ((e 2).trans (e 3).symm) h3
  ⟨h, h3, h2, p1_of ((e 1).trans (e 2).symm) h2⟩
theorem all_pos : ∀ (T : Tm) (b : Bool), T.Wf b → if b then P0 T else PP T := by
  obtain ⟨k1, k2, k3, k4, k5, k6, k7, k8⟩ := cls_lit
  refine Tm.ind (P := fun b T => if b then P0 T else PP T) ?_ ?_ ?_ ?_ ?_ ?_ ?_ ?_ ?_
  · exact fun x w => PP.four w (fun _ => rfl) (fun rest => .wd w)
  · intro a w ih
    have h2 : P2 (.neg a) := fun rest d u hm c => by
      refine .sum (.neg (ws := S "-" :: (a.wd 3 ++ rest)) k7 (ih.p3 rest _ _ (.termStop (.inr hm)))) ?_
      rw [mk2_ne a.pl_ne]; exact c
    have h1 := p1_of (T := .neg a) rfl h2
    have h4 := p4_of (T := .neg a) rfl h1
    exact ⟨h4, p3_of rfl h4, h2, h1⟩
  · exact fun a w i => PP.four (T := .nt a) w (fun _ => rfl) (fun rest => .nt (ws := S "~" :: (a.wd 4 ++ rest)) k8 (i.p4 rest))
  · intro o a b wo wa wb i j
    have w : (Tm.bin o a b).Wf false := ⟨wo, wa, wb⟩
    have m : mk3 o a.pl b.pl = (Tm.bin o a b).pl := mk3_ne b.pl_ne
    have sums (c : cls o = .plus ∨ cls o = .minus) : PP (.bin o a b) := by
      have W := wd_bin (a := a) (b := b) (lv_sum c)
      have h2 : P2 (.bin o a b) := fun rest d u hm q => by
        rw [W, show par (decide (2 < 2)) (a.wd 2 ++ o :: b.wd 3) = a.wd 2 ++ o :: b.wd 3 from rfl, List.append_assoc]
        exact i.p2 _ _ _ (c.elim (fun c => ne_tk c (by decide)) fun c => ne_tk c (by decide)) (.sumGo (ws := o :: (b.wd 3 ++ rest)) a.pl_ne c (j.p3 rest _ _ (.termStop (.inr hm))) (m ▸ q))
      have h1 := p1_of ((W 1).trans (W 2).symm) h2
      have h4 := p4_of ((W 4).trans (congrArg (fun l => S "(" :: (l ++ [S ")"])) (W 1).symm)) h1
      exact ⟨h4, p3_of ((W 3).trans (W 4).symm) h4, h2, h1⟩
    rcases wo with c | c | c | c
    · have W := wd_bin (a := a) (b := b) (lv_mul c)
      have h3 : P3 (.bin o a b) := fun rest d u q => by
        rw [W, show par (decide (3 < 3)) (a.wd 3 ++ o :: b.wd 4) = a.wd 3 ++ o :: b.wd 4 from rfl, List.append_assoc]
        exact i.p3 _ _ _ (.termGo (ws := o :: (b.wd 4 ++ rest)) a.pl_ne c (j.p4 rest) (m ▸ q))
      have h2 := p2_of w ((W 2).trans (W 3).symm) h3
      have h1 := p1_of ((W 1).trans (W 2).symm) h2
      exact ⟨p4_of ((W 4).trans (congrArg (fun l => S "(" :: (l ++ [S ")"])) (W 1).symm)) h1, h3, h2, h1⟩
    · exact sums (.inl c)
    · exact sums (.inr c)
    · have W := wd_bin (a := a) (b := b) (lv_rel c)
      have h1 : P1 (.bin o a b) := fun rest r => by
        rw [W, show par (decide (1 < 1)) (a.wd 2 ++ o :: b.wd 2) = a.wd 2 ++ o :: b.wd 2 from rfl, List.append_assoc, ← m]
        exact .rel1 (us := o :: (b.wd 2 ++ rest)) (i.p2 _ _ _ (ne_tk c (by decide)) (.sumStop (.inr ⟨ne_tk c (by decide), ne_tk c (by decide)⟩))) a.pl_ne c (j.p2 rest _ _ r.m (.sumStop (.inr ⟨r.p, r.n⟩)))
      have h4 := p4_of ((W 4).trans (congrArg (fun l => S "(" :: (l ++ [S ")"])) (W 1).symm)) h1
      have h3 := p3_of ((W 3).trans (W 4).symm) h4
      exact ⟨h4, h3, p2_of w ((W 2).trans (W 3).symm) h3, h1⟩
  · exact PP.four (T := .set0) trivial (fun _ => rfl) (fun rest => .lb (ws := S "{" :: S "}" :: rest) k3 (.setEnd k4))
  · intro p w i
    refine PP.four (T := .set1 p) w (fun _ => rfl) fun rest => ?_
    have hp := (hd_wd p true w 0 ([S "}"] ++ rest)).1
    have e : (Tm.set1 p).wd 4 ++ rest = S "{" :: (p.wd 0 ++ ([S "}"] ++ rest)) := congrArg (S "{" :: ·) (List.append_assoc _ _ _)
    rw [e]
    exact .lb (ws := S "{" :: _) k3 (.setLast (acc := []) (us := S "}" :: rest) (hp.ne (by decide)) (hp.ne (by decide)) (i _ (.inr k4)) k4)
  · intro p q w w2 i j
    refine PP.four (T := .set2 p q) ⟨w, w2⟩ (fun _ => rfl) fun rest => ?_
    have hp := (hd_wd p true w 0 (S "," :: (q.wd 0 ++ ([S "}"] ++ rest)))).1
    have hq := (hd_wd q true w2 0 ([S "}"] ++ rest)).1
    have e : (Tm.set2 p q).wd 4 ++ rest = S "{" :: (p.wd 0 ++ (S "," :: (q.wd 0 ++ ([S "}"] ++ rest)))) := by
      show S "{" :: ((p.wd 0 ++ S "," :: (q.wd 0 ++ [S "}"])) ++ rest) = _
      rw [List.append_assoc, List.cons_append, List.append_assoc]
    rw [e]
    exact .lb (ws := S "{" :: _) k3 (.setComma (acc := []) (us := S "," :: _) (hp.ne (by decide)) (hp.ne (by decide)) (i _ (.inl k5)) k5 (.setLast (us := S "}" :: rest) (hq.ne (by decide)) (hq.ne (by decide)) (j _ (.inr k4)) k4))
  · exact fun a w i rest c => .pOne (i.p1 rest (c.elim (fun c => c ▸ out (by decide)) fun c => c ▸ out (by decide))) (c.elim (fun c => ne_tk c (by decide)) fun c => ne_tk c (by decide))
  · intro a b _ _ i j rest c
    have e : (Tm.rng a b).wd 0 ++ rest = a.wd 1 ++ (S ".." :: (b.wd 1 ++ rest)) := List.append_assoc _ _ _
    rw [e]
    exact .pRange (us := S ".." :: (b.wd 1 ++ rest)) (i.p1 _ (k6 ▸ out (by decide))) k6 (j.p1 rest (c.elim (fun c => c ▸ out (by decide)) fun c => c ▸ out (by decide)))
/-- the text's words read back -/
theorem reads_back {T : Tm} (w : T.Wf false) : Rd .rel (T.wd 1) T.pl [] := by
  have e : cls (fw []) = .eof := cls_eof.mpr rfl
  have q := (all_pos T false w : PP T).p1 [] (e ▸ out (by decide))
  rwa [List.append_nil] at q
/-- with one pair fewer it is not read as the same -/
theorem not_less {T : Tm} (w : T.Wf false) {ws : List Str} (h : cnt ws < cnt (T.wd 1)) : ¬ Rd .rel ws T.pl [] := fun q => by
  have z := q.eats T w rfl
  rw [cnt_wd T false w 1] at h
  exact Nat.not_le_of_lt h (Nat.le_trans (Nat.le_add_left _ _) z)
end T_M3
section T_B0
abbrev Led := List (Addr × Obj)

/-- a call of f with vs on the ledger `news` ends, and hands back r on a ledger news' with Post -/
noncomputable def Runs (w : World) (sz : Nat) (news : Led) (f : Addr) (vs : List Value) (Post : Value → Led → Prop) : Prop :=
  ∀ (p : Program) (loose : List Str) (mean : ExcName → Option Value) (mg mb : Str → Option Value) (dp un : Nat) (gd : Option (List Code)) (cn : Str) (cs : Scope) (a : Addr) (ccd : Value) (cl : List (Str × Addr)) (outer : List Env) (A₀ : Around) (base h₀ : Heap) (L : Addr) (m : Str → Option Value) (s : Shared)
    (Q E : Value → Shared → Prop),
    Below A₀ base outer h₀ → Fr h₀ L s.heap m → (hd.heap_39 w.params).In h₀ → News h₀ L s.heap news → Top p loose mean mg mb h₀ → cs.kind = .function → dp + sz < recursionLimit → un + 8 * sz + 200 < cLine →
    (∀ r news' h' tk', Post r news' → Fr h₀ L h' m → News h₀ L h' news' → Q r { s with heap := h', toks := tk' }) →
    wpAny (model PySem.Challenge.rw_pb0356_01.row.prog w) (ktrTop dp un gd cn cs L a ccd cl outer) (call (.ref f) vs) Q E s

theorem Runs.use {w : World} {sz : Nat} {news : Led} {f : Addr} {vs : List Value} {Post : Value → Led → Prop} (R : Runs w sz news f vs Post)
    {p : Program} {loose : List Str} {mean : ExcName → Option Value} {mg mb : Str → Option Value} {dp un : Nat} {gd : Option (List Code)} {cn : Str} {cs : Scope} {a : Addr} {ccd : Value} {cl : List (Str × Addr)} {outer : List Env} {A₀ : Around} {base h₀ : Heap} {L : Addr} {m : Str → Option Value} {s : Shared}
    {Q E : Value → Shared → Prop}
    (B : Below A₀ base outer h₀) (F : Fr h₀ L s.heap m) (X : (hd.heap_39 w.params).In h₀) (N : News h₀ L s.heap news) (T : Top p loose mean mg mb h₀) (hk : cs.kind = .function) (hd : dp + sz < recursionLimit) (hu : un + 8 * sz + 200 < cLine)
    (ret : ∀ r news' h' tk', Post r news' → Fr h₀ L h' m → News h₀ L h' news' → Q r { s with heap := h', toks := tk' }) :
    wpAny (model PySem.Challenge.rw_pb0356_01.row.prog w) (ktrTop dp un gd cn cs L a ccd cl outer) (call (.ref f) vs) Q E s :=
  R p loose mean mg mb dp un gd cn cs a ccd cl outer A₀ base h₀ L m s Q E B F X N T hk hd hu ret

theorem Runs.useE {w : World} {sz : Nat} {news : Led} {f : Addr} {vs : List Value} {nz : Led} {v : Value} (R : Runs w sz news f vs (fun r news' => news' = nz ∧ r = v))
    {p : Program} {loose : List Str} {mean : ExcName → Option Value} {mg mb : Str → Option Value} {dp un : Nat} {gd : Option (List Code)} {cn : Str} {cs : Scope} {a : Addr} {ccd : Value} {cl : List (Str × Addr)} {outer : List Env} {A₀ : Around} {base h₀ : Heap} {L : Addr} {m : Str → Option Value} {s : Shared}
    {Q E : Value → Shared → Prop}
    (F : Fr h₀ L s.heap m) (B : Below A₀ base outer h₀) (X : (hd.heap_39 w.params).In h₀) (T : Top p loose mean mg mb h₀) (hk : cs.kind = .function) (N : News h₀ L s.heap news) (hd : dp + sz < recursionLimit) (hu : un + 8 * sz + 200 < cLine)
    (ret : ∀ h' tk', Fr h₀ L h' m → News h₀ L h' (nz) → Q v { s with heap := h', toks := tk' }) :
    wpAny (model PySem.Challenge.rw_pb0356_01.row.prog w) (ktrTop dp un gd cn cs L a ccd cl outer) (call (.ref f) vs) Q E s :=
  R.use B F X N T hk hd hu fun r n h t p F N => by
    obtain ⟨rfl, rfl⟩ := p
    exact ret h t F  N
theorem Runs.useS {w : World} {sz : Nat} {news : Led} {f : Addr} {vs : List Value} {nz : Led} {x : Str} (R : Runs w sz news f vs (fun r news' => news' = nz ∧ ∃ t, r = .str x t))
    {p : Program} {loose : List Str} {mean : ExcName → Option Value} {mg mb : Str → Option Value} {dp un : Nat} {gd : Option (List Code)} {cn : Str} {cs : Scope} {a : Addr} {ccd : Value} {cl : List (Str × Addr)} {outer : List Env} {A₀ : Around} {base h₀ : Heap} {L : Addr} {m : Str → Option Value} {s : Shared}
    {Q E : Value → Shared → Prop}
    (F : Fr h₀ L s.heap m) (B : Below A₀ base outer h₀) (X : (hd.heap_39 w.params).In h₀) (T : Top p loose mean mg mb h₀) (hk : cs.kind = .function) (N : News h₀ L s.heap news) (hd : dp + sz < recursionLimit) (hu : un + 8 * sz + 200 < cLine)
    (ret : ∀ h' tk', Fr h₀ L h' m → ∀ (t : Tok), News h₀ L h' (nz) → Q (.str x t) { s with heap := h', toks := tk' }) :
    wpAny (model PySem.Challenge.rw_pb0356_01.row.prog w) (ktrTop dp un gd cn cs L a ccd cl outer) (call (.ref f) vs) Q E s :=
  R.use B F X N T hk hd hu fun r n h t p F N => by
    obtain ⟨rfl, t1, rfl⟩ := p
    exact ret h t F t1 N
theorem Runs.useI {w : World} {sz : Nat} {news : Led} {f : Addr} {vs : List Value} {nz : Led} {i : Int} (R : Runs w sz news f vs (fun r news' => news' = nz ∧ ∃ t, r = .int i t))
    {p : Program} {loose : List Str} {mean : ExcName → Option Value} {mg mb : Str → Option Value} {dp un : Nat} {gd : Option (List Code)} {cn : Str} {cs : Scope} {a : Addr} {ccd : Value} {cl : List (Str × Addr)} {outer : List Env} {A₀ : Around} {base h₀ : Heap} {L : Addr} {m : Str → Option Value} {s : Shared}
    {Q E : Value → Shared → Prop}
    (F : Fr h₀ L s.heap m) (B : Below A₀ base outer h₀) (X : (hd.heap_39 w.params).In h₀) (T : Top p loose mean mg mb h₀) (hk : cs.kind = .function) (N : News h₀ L s.heap news) (hd : dp + sz < recursionLimit) (hu : un + 8 * sz + 200 < cLine)
    (ret : ∀ h' tk', Fr h₀ L h' m → ∀ (t : Tok), News h₀ L h' (nz) → Q (.int i t) { s with heap := h', toks := tk' }) :
    wpAny (model PySem.Challenge.rw_pb0356_01.row.prog w) (ktrTop dp un gd cn cs L a ccd cl outer) (call (.ref f) vs) Q E s :=
  R.use B F X N T hk hd hu fun r n h t p F N => by
    obtain ⟨rfl, t1, rfl⟩ := p
    exact ret h t F t1 N
theorem rm0 {dp sz C : Nat} (h : dp + sz < C) : dp < C := Nat.lt_of_le_of_lt (Nat.le_add_right _ _) h
theorem rm1 {un sz C : Nat} (h : un + 8 * sz + 200 < C) : un + 3 + 64 < C := by
  refine Nat.lt_of_le_of_lt (Nat.le_trans (show un + 67 ≤ un + 200 from Nat.add_le_add_left (by decide) un) ?_) h
  exact Nat.add_le_add_right (Nat.le_add_right _ _) _
theorem room_d {dp sz x D C : Nat} (h : dp + sz < C) (e : D = dp + 1) (hx : x + 1 ≤ sz) : D + x < C := by lia
theorem room_u {un sz U C : Nat} (x : Nat) (h : un + 8 * sz + 200 < C) (e : U = un + 3) (hx : x + 1 ≤ sz) : U + 8 * x + 200 < C := by lia
theorem room_uu {un U C : Nat} (x sz : Nat) (h : un + 8 * sz + 200 < C) (e : U = un + 4) (hx : x + 1 ≤ sz) : U + 8 * x + 200 < C := by lia
theorem room_n {a b c c' : Nat} (h : a ≤ b) (hc : c + 1 ≤ c') : c + 6 * a + 1 ≤ c' + 6 * b := by lia
theorem room_s {a b c c' : Nat} (h : a + 1 ≤ b) (hc : c ≤ c' + 5) : c + 6 * a + 1 ≤ c' + 6 * b := by lia
theorem room_1 {c c' b : Nat} (hc : c + 1 ≤ c') : c + 1 ≤ c' + 6 * b := by lia
theorem n_lt {a b c : Nat} (h : b + 1 ≤ c) (k : a ≤ b) : a + 1 ≤ c := by lia
theorem app_z {a b : Nat} (h : a + b ≤ 4097) : a ≤ 5000 := by lia
theorem in_u {un sz U C : Nat} (h : un + 8 * sz + 200 < C) (e : U = un + 3) : U + 190 < C := by lia
/-- a list of words in reading order, as the row holds them: the first word last -/
inductive RowIs : List Value → List Str → Prop
  | nil : RowIs [] []
  | cons {vs : List Value} {x : Str} {t : Tok} {ws : List Str} : PyData.strOk x = true → RowIs vs ws → RowIs (vs ++ [.str x t]) (x :: ws)

theorem RowIs.reads {h : Heap} {vs : List Value} {ws : List Str} (R : RowIs vs ws) : ReadsAll h vs ((ws.map PyData.str).reverse) [] := by
  have q : StrsAre vs ws.reverse := by
    induction R with
    | nil => exact .nil
    | cons _ _ ih => rw [List.reverse_cons]; exact ih.append' (.cons _ _ .nil)
  rw [← List.map_reverse]
  exact q.reads h
theorem RowIs.ok {vs : List Value} {ws : List Str} (R : RowIs vs ws) : ∀ x ∈ ws, PyData.strOk x = true := by
  induction R with
  | nil => exact fun _ h => nomatch h
  | cons ok _ ih => exact List.forall_mem_cons.mpr ⟨ok, ih⟩
theorem lay_strs {xs : List Str} (h : ∀ x ∈ xs, PyData.strOk x = true) : PyData.canLayAll0 (xs.map PyData.str) = true ∧ PyData.depthAll (xs.map PyData.str) = 0 := by
  induction xs with
  | nil => exact ⟨rfl, rfl⟩
  | cons x xs ih =>
    have q := ih fun y hy => h y (.tail _ hy)
    refine ⟨(Bool.and_eq_true _ _).mpr ⟨h x (.head _), q.1⟩, ?_⟩
    show max 0 _ = 0
    rw [q.2]; rfl
theorem shaped_strs {ws : List Str} (h : ∀ x ∈ ws, PyData.strOk x = true) : PySem.SeqAt.shaped (.list ((ws.map PyData.str).reverse)) = true := by
  have q := lay_strs (xs := ws.reverse) fun x hx => h x (List.mem_reverse.mp hx)
  rw [List.map_reverse] at q
  unfold PySem.SeqAt.shaped
  exact (Bool.and_eq_true _ _).mpr ⟨q.1, decide_eq_true (by show PyData.depthAll _ + 1 ≤ 64; rw [q.2]; decide)⟩
section
variable {prog : Program} {w : World} {A : Around} {E : Value → Shared → Prop} {s : Shared} {h₀ : Heap} {L a b : Addr} {news : Led} {vs : List Value} {ws : List Str} {n k : Nat} {Q : Value → Shared → Prop}
theorem row_reads (N : News h₀ L s.heap news) (ma : (a, W.listOf vs.toArray n) ∈ news) (R : RowIs vs ws) : Reads s.heap (.ref a) (.list ((ws.map PyData.str).reverse)) [a] :=
  reads_list_at (N.get ma) rfl rfl R.reads
theorem nil_reads (N : News h₀ L s.heap news) (mb : (b, W.listOf #[] k) ∈ news) : Reads s.heap (.ref b) (.list []) [b] :=
  reads_list_at (N.get mb) rfl rfl ReadsAll.nil
theorem eqv_nil (ws : List Str) : PyData.eqv (.list ((ws.map PyData.str).reverse)) (.list []) = ws.isEmpty := by
  cases ws with
  | nil => rfl
  | cons x r => rw [List.map_cons, List.reverse_cons]; cases (List.map PyData.str r).reverse <;> rfl
theorem row_ne_nil (N : News h₀ L s.heap news) (ma : (a, W.listOf vs.toArray n) ∈ news) (R : RowIs vs ws) (mb : (b, W.listOf #[] k) ∈ news) (hu : A.units + 64 < cLine)
    (h : Q (.bool (!ws.isEmpty)) s) : wpAny (model prog w) A (compareOp .NotEq (.ref a) (.ref b)) Q E s :=
  ne_dataH (row_reads N ma R) (nil_reads N mb) (shaped_strs R.ok) (by decide +kernel) hu (by rw [eqv_nil]; exact h)
theorem row_eq_nil (N : News h₀ L s.heap news) (ma : (a, W.listOf vs.toArray n) ∈ news) (R : RowIs vs ws) (mb : (b, W.listOf #[] k) ∈ news) (hu : A.units + 64 < cLine)
    (h : Q (.bool ws.isEmpty) s) : wpAny (model prog w) A (compareOp .Eq (.ref a) (.ref b)) Q E s :=
  eq_dataH (row_reads N ma R) (nil_reads N mb) (shaped_strs R.ok) (by decide +kernel) hu (by rw [eqv_nil]; exact h)
theorem RowIs.last {vs : List Value} {ws : List Str} (R : RowIs vs ws) (hne : ws.isEmpty = false) : ∃ t, vs.toArray[((-1 : Int) + vs.toArray.size).toNat]? = some (.str (ws.headD "") t) ∧ 1 ≤ vs.length := by
  cases R with
  | nil => cases hne
  | @cons vs x t ws ok r =>
    have e : ((-1 : Int) + (vs ++ [Value.str x t]).toArray.size).toNat = vs.length := by
      rw [List.size_toArray, List.length_append]; show (_ + ((vs.length + 1 : Nat) : Int)).toNat = _; lia
    refine ⟨t, ?_, by rw [List.length_append]; exact Nat.le_add_left _ _⟩
    rw [e, List.getElem?_toArray]
    exact List.getElem?_concat_length
theorem row_last {value slice : Expr} {u : Tok} (N : News h₀ L s.heap news) (ma : (a, W.listOf vs.toArray n) ∈ news) (R : RowIs vs ws) (hne : ws.isEmpty = false) 
    (h : ∀ t, Q (.str (ws.headD "") t) s)
    (hs : subscripted slice false (.ref a) (.int (-1) u) = operate [.ref a, .int (-1) u] (getItem (.ref a) (.int (-1) u)) := by with_unfolding_all rfl) : wpAny (model prog w) A (subscriptTail value slice (.ref a) (.int (-1) u)) Q E s := by
  obtain ⟨t, e, l⟩ := R.last hne
  have hL : s.heap.IsList a vs.toArray := News.isList N ma
  exact tail_any hL.typeIs slot_list_getitem.lookup (wpAny_getItem_list_neg hL (by decide) (by rw [List.size_toArray]; lia) (by decide) e (h t)) hs
inductive StrVals : List Value → List Str → Prop
  | nil : StrVals [] []
  | cons {vs : List Value} {x : Str} {t : Tok} {xs : List Str} : StrVals vs xs → StrVals (.str x t :: vs) (x :: xs)
theorem StrVals.reads {h : Heap} {vs : List Value} {xs : List Str} (R : StrVals vs xs) : ReadsAll h vs (xs.map PyData.str) [] := by
  have q : StrsAre vs xs := by
    induction R with
    | nil => exact .nil
    | cons _ ih => exact .cons _ _ ih
  exact q.reads h
theorem any_strs {x : Str} {xs : List Str} : ((xs.map PyData.str).any fun y => PyData.eqv y (.str x)) = xs.any fun y => y == x := by
  rw [List.any_map]; rfl
theorem any_mem {x : Str} (xs : List Str) : (xs.any fun y => y == x) = decide (x ∈ xs) := by
  induction xs with
  | nil => rfl
  | cons y xs ih =>
    rw [List.any_cons, ih]
    by_cases h : y = x
    · rw [h, beq_self_eq_true]; exact (decide_eq_true (.head _)).symm
    · rw [beq_false_of_ne h, Bool.false_or]
      exact decide_eq_decide.mpr ⟨.tail _, fun m => (List.mem_cons.mp m).resolve_left fun e => h e.symm⟩
theorem in_words {x : Str} {t : Tok} {xs : List Str} (N : News h₀ L s.heap news) (ma : (a, W.listOf vs.toArray n) ∈ news) (R : StrVals vs xs) (ok : ∀ y ∈ xs, PyData.strOk y = true) (hx : PyData.strOk x = true) (hu : A.units + 64 < cLine)
    (h : Q (.bool (xs.any fun y => y == x)) s) : wpAny (model prog w) A (compareOp .In (.str x t) (.ref a)) Q E s := by
  have l := lay_strs ok
  refine SeqAt.in_list_reads (xs := xs.map PyData.str) (d := .str x) (bs := []) (reads_list_at (N.get ma) rfl rfl R.reads) (Reads.str x t) l.1 hx ?_ (by rw [any_strs]; exact h)
  rw [l.2]; exact (Nat.lt_of_le_of_lt (Nat.add_le_add_left (show 1 ≤ 64 by decide) A.units) hu : A.units + 1 < cLine)
theorem notIn_words {x : Str} {t : Tok} {xs : List Str} (N : News h₀ L s.heap news) (ma : (a, W.listOf vs.toArray n) ∈ news) (R : StrVals vs xs) (ok : ∀ y ∈ xs, PyData.strOk y = true) (hx : PyData.strOk x = true) (hu : A.units + 64 < cLine)
    (h : Q (.bool (!decide (x ∈ xs))) s) : wpAny (model prog w) A (compareOp .NotIn (.str x t) (.ref a)) Q E s := by
  have l := lay_strs ok
  refine SeqAt.notIn_list_reads (xs := xs.map PyData.str) (d := .str x) (bs := []) (reads_list_at (N.get ma) rfl rfl R.reads) (Reads.str x t) l.1 hx ?_ (by rw [any_strs, any_mem]; exact h)
  rw [l.2]; exact (Nat.lt_of_le_of_lt (Nat.add_le_add_left (show 1 ≤ 64 by decide) A.units) hu : A.units + 1 < cLine)
theorem RowIs.fw_ok {vs : List Value} {ws : List Str} (R : RowIs vs ws) : PyData.strOk (fw ws) = true := by
  cases R with
  | nil => decide +kernel
  | cons ok _ => exact ok
end
noncomputable def Held (p : Prop) : Prop := p
theorem Held.of {p : Prop} (h : Held p) : p := h
theorem Held.mk {p : Prop} (h : p) : Held p := h
noncomputable def nest (ws : List Str) : Nat := ws.countP (fun x => cls x == .nt || cls x == .lp || cls x == .lb)
theorem nest_suffix {a b : List Str} (h : a <:+ b) : nest a ≤ nest b := h.sublist.countP_le
theorem nest_cons {x : Str} {ws : List Str} (h : cls x = .nt ∨ cls x = .lp ∨ cls x = .lb) : nest (x :: ws) = nest ws + 1 := by
  unfold nest; rw [List.countP_cons, if_pos (by rcases h with h | h | h <;> simp [h])]
theorem nest_tail {x : Str} {ws : List Str} : nest ws ≤ nest (x :: ws) := nest_suffix (List.suffix_cons x ws)
/-- what a reader's call leaves -/
inductive PPost (fz : Led) (row : Addr) (k : Kd) (ws : List Str) (r : Value) (news' : Led) : Prop
  | mk (tl : Led) (n : Nat) (vs : List Value) (ws' : List Str) (d : Dat) : news' = (row, W.listOf vs.toArray n) :: (tl ++ fz) → RowIs vs ws' → (∀ p ∈ tl, p.1 ≠ row) → (∀ q ∈ fz, ∀ p ∈ tl, p.1 ≠ q.1) → DatIn tl r d → Rd k ws d ws' → PPost fz row k ws r news'
theorem Runs.useP {w : World} {sz : Nat} {news : Led} {f : Addr} {vs : List Value} {fz : Led} {row : Addr} {k : Kd} {ws : List Str} (R : Runs w sz news f vs (PPost fz row k ws))
    {p : Program} {loose : List Str} {mean : ExcName → Option Value} {mg mb : Str → Option Value} {dp un : Nat} {gd : Option (List Code)} {cn : Str} {cs : Scope} {a : Addr} {ccd : Value} {cl : List (Str × Addr)} {outer : List Env} {A₀ : Around} {base h₀ : Heap} {L : Addr} {m : Str → Option Value} {s : Shared}
    {Q E : Value → Shared → Prop}
    (F : Fr h₀ L s.heap m) (B : Below A₀ base outer h₀) (X : (hd.heap_39 w.params).In h₀) (T : Top p loose mean mg mb h₀) (hk : cs.kind = .function) (N : News h₀ L s.heap news) (hd : dp + sz < recursionLimit) (hu : un + 8 * sz + 200 < cLine)
    (ret : ∀ r h' tk', Fr h₀ L h' m → ∀ (tl : Led) (n : Nat) (vs : List Value) (ws' : List Str) (d : Dat), RowIs vs ws' → (∀ p ∈ tl, p.1 ≠ row) → (∀ q ∈ fz, ∀ p ∈ tl, p.1 ≠ q.1) → DatIn tl r d → Rd k ws d ws' → News h₀ L h' ((row, W.listOf vs.toArray n) :: (tl ++ fz)) → ws'.length ≤ ws.length → nest ws' ≤ nest ws → Q r { s with heap := h', toks := tk' }) :
    wpAny (model PySem.Challenge.rw_pb0356_01.row.prog w) (ktrTop dp un gd cn cs L a ccd cl outer) (call (.ref f) vs) Q E s :=
  R.use B F X N T hk hd hu fun r n h t p F N => by
    obtain ⟨tl, n', vs, ws', d, rfl, R', Z, Y, D, S'⟩ := p
    exact ret r h t F tl n' vs ws' d R' Z Y D S' N (Rd.suffix S').length_le (nest_suffix (Rd.suffix S'))
theorem RowIs.tail {vs : List Value} {ws : List Str} (R : RowIs vs ws) (h : fw ws ≠ S "") : ∃ t, vs = vs.dropLast ++ [.str (fw ws) t] ∧ RowIs vs.dropLast ws.tail ∧ ws = fw ws :: ws.tail := by
  cases R with
  | nil => exact absurd rfl h
  | cons ok r => exact ⟨_, congrArg (· ++ _) List.dropLast_concat.symm, List.dropLast_concat.symm ▸ r, rfl⟩
theorem RowIs.length {vs : List Value} {ws : List Str} (R : RowIs vs ws) : vs.length = ws.length := by
  induction R with
  | nil => rfl
  | cons _ _ ih => rw [List.length_append, ih]; rfl
theorem len_pop {ws : List Str} (h : fw ws ≠ S "") : ws.length = ws.tail.length + 1 := by
  cases ws with
  | nil => exact absurd rfl h
  | cons x r => rfl
theorem nest_pop {ws : List Str} {y : Str} (h : (fw ws == y) = true) (hy : cls y = .nt ∨ cls y = .lp ∨ cls y = .lb) : nest ws = nest ws.tail + 1 := by
  cases ws with
  | nil =>
    have e : S "" = y := eq_of_beq h
    rw [← e, cls_eof.mpr rfl] at hy
    rcases hy with q | q | q <;> cases q
  | cons x r =>
    have e : x = y := eq_of_beq h
    subst e
    exact nest_cons hy
theorem nest_pop' {ws : List Str} {y : Str} (h : (fw ws == y) = true) (hy : cls y = .nt ∨ cls y = .lp ∨ cls y = .lb) : nest ws.tail + 1 ≤ nest ws := by
  cases ws with
  | nil =>
    rw [← eq_of_beq h, show cls (fw []) = .eof from cls_eof.mpr rfl] at hy
    rcases hy with q | q | q <;> cases q
  | cons x r =>
    rw [← eq_of_beq h] at hy
    exact Nat.le_of_eq (nest_cons hy).symm
theorem nest_le_tail (ws : List Str) : nest ws.tail ≤ nest ws := by
  cases ws with
  | nil => exact Nat.le_refl _
  | cons x r => exact nest_tail
theorem row_pop {prog : Program} {w : World} {A : Around} {E : Value → Shared → Prop} {s : Shared} {h₀ : Heap} {L D : Addr} {m : Str → Option Value} {news news' : Led} {vs : List Value} {ws : List Str} {n : Nat} {Q : Value → Shared → Prop}
    (F : Fr h₀ L s.heap m) (N : News h₀ L s.heap news) (U : Upd D (W.listOf vs.toArray n) (W.listOf vs.dropLast.toArray (n + 1)) news news') (R : RowIs vs ws) (hne : fw ws ≠ S "") (hz : ws.length ≤ 4096)
    (h : ∀ h' t, Fr h₀ L h' m → News h₀ L h' news' → RowIs vs.dropLast ws.tail → ws.tail.length < ws.length → nest ws.tail ≤ nest ws → Q (.str (fw ws) t) { s with heap := h' }) : wpAny (model prog w) A (call (.builtin "list.pop") [.ref D]) Q E s := by
  obtain ⟨t, h1, h2, _⟩ := R.tail hne
  refine kl_pop F N (p := vs.dropLast) (y := .str (fw ws) t) ?_ U (by rw [List.toList_toArray, R.length, sizeLine_eq]; lia) fun h' F' N' => h h' t F' N' h2 (by have := len_pop hne; lia) (nest_le_tail ws)
  have e := kpa_last (.str (fw ws) t) vs.dropLast
  rw [← h1] at e
  simpa using e
theorem row_append {prog : Program} {w : World} {A : Around} {E : Value → Shared → Prop} {s : Shared} {h₀ : Heap} {L D : Addr} {m : Str → Option Value} {news news' : Led} {vs : List Value} {x : Value} {n : Nat} {Q : Value → Shared → Prop}
    (F : Fr h₀ L s.heap m) (N : News h₀ L s.heap news) (U : Upd D (W.listOf vs.toArray n) (W.listOf (vs ++ [x]).toArray (n + 1)) news news') (hz : vs.length ≤ 5000)
    (h : ∀ h', Fr h₀ L h' m → News h₀ L h' news' → Q .none { s with heap := h' }) : wpAny (model prog w) A (call (.builtin "list.append") [.ref D, x]) Q E s :=
  append_K F N (by rw [List.push_toArray]; exact U) h (by rw [List.size_toArray, sizeLine_eq]; lia)
theorem row_copy {prog : Program} {w : World} {A : Around} {E : Value → Shared → Prop} {s : Shared} {h₀ : Heap} {L l : Addr} {m : Str → Option Value} {news : Led} {vs : List Value} {ws : List Str} {n : Nat} {Q : Value → Shared → Prop}
    (F : Fr h₀ L s.heap m) (N : News h₀ L s.heap news) (hm : (l, W.listOf vs.toArray n) ∈ news) (R : RowIs vs ws) (hz : ws.length ≤ 4096)
    (h : ∀ D c h', Fr h₀ L h' m → News h₀ L h' ((D, W.listOf vs.toArray c) :: news) → (∀ q ∈ news, q.1 < D) → Q (.ref D) { s with heap := h' }) : wpAny (model prog w) A (call (.type "list") [.ref l]) Q E s :=
  list_copyK F N (News.isList N hm) h (by rw [List.size_toArray, R.length, sizeLine_eq]; lia)
theorem ne_lit {x y : Str} (h : (x == y) = true) (hy : y ≠ S "") : x ≠ S "" := by rw [eq_of_beq h]; exact hy
theorem ne_bne {x : Str} (h : (x != S "") = true) : x ≠ S "" := bne_iff_ne.mp h
theorem mem_any {x : Str} {xs : List Str} (h : (xs.any fun y => y == x) = true) : x ∈ xs := by rw [any_mem] at h; exact of_decide_eq_true h
theorem not_any {x : Str} {xs : List Str} (h : (xs.any fun y => y == x) = false) : x ∉ xs := by rw [any_mem] at h; exact of_decide_eq_false h
theorem ne_any {x : Str} {xs : List Str} (h : (xs.any fun y => y == x) = true) (n : S "" ∉ xs) : x ≠ S "" := fun e => n (by rw [← e]; exact mem_any h)
theorem bne_t {x y : Str} (h : (x != y) = true) : (x == y) = false := Bool.not_eq_true' .. |>.mp h
theorem bne_f {x y : Str} (h : (x != y) = false) : (x == y) = true := Bool.not_eq_false' .. |>.mp h
theorem beq_t {x y : Str} (h : (x == y) = true) : x = y := eq_of_beq h
theorem beq_f {x y : Str} (h : (x == y) = false) : x ≠ y := beq_eq_false_iff_ne.mp h
noncomputable def POk (w : World) (k : Kd) (c : Nat) (f : Addr) (ws : List Str) : Prop :=
  ws.length ≤ 4096 → ∀ (fz : Led) (row : Addr) (n : Nat) (vs : List Value), (∀ p ∈ fz, p.1 ≠ row) → RowIs vs ws → Runs w (c + 6 * nest ws) ((row, W.listOf vs.toArray n) :: fz) f [.ref row] (PPost fz row k ws)
noncomputable def PAll (w : World) (k : Kd) (c : Nat) (f : Addr) (n : Nat) : Prop := ∀ us : List Str, us.length < n → POk w k c f us
theorem PAll.run {w : World} {k : Kd} {c n : Nat} {f : Addr} (P : PAll w k c f n) {us : List Str} (lt : us.length < n) (hl : us.length ≤ 4096) {fz : Led} {row : Addr} {j : Nat} {vs : List Value} (hz : ∀ p ∈ fz, p.1 ≠ row) (R : RowIs vs us) :
    Runs w (c + 6 * nest us) ((row, W.listOf vs.toArray j) :: fz) f [.ref row] (PPost fz row k us) := P us lt hl fz row j vs hz R
theorem all_app {a b : Led} {d : Addr} (h : ∀ p ∈ a, p.1 ≠ d) (k : ∀ p ∈ b, p.1 ≠ d) : ∀ p ∈ a ++ b, p.1 ≠ d := fun p hp => (List.mem_append.mp hp).elim (h p) (k p)
section
variable {fz tl : Led} {row x : Addr} {o : Obj} {k : Kd} {ws ws' : List Str} {r : Value} {d : Dat} {n : Nat} {vs : List Value} {h₀ h' : Heap} {L : Addr} {m : Str → Option Value} {P : Value → Led → Heap → Nat → Prop} {tk : Nat}
/-- the ends of a reader's call -/
theorem fin0 (ret : ∀ r news' h' tk', PPost fz row k ws r news' → Fr h₀ L h' m → News h₀ L h' news' → P r news' h' tk') (F : Fr h₀ L h' m) (N : News h₀ L h' ((row, W.listOf vs.toArray n) :: fz)) (R : RowIs vs ws') (D : DatIn [] r d) (S : Rd k ws d ws') :
    P r ((row, W.listOf vs.toArray n) :: fz) h' tk := ret _ _ _ _ ⟨[], n, vs, ws', d, rfl, R, (fun _ h => nomatch h), (fun _ _ _ h => nomatch h), D, S⟩ F N
theorem fin1 (ret : ∀ r news' h' tk', PPost fz row k ws r news' → Fr h₀ L h' m → News h₀ L h' news' → P r news' h' tk') (F : Fr h₀ L h' m) (N : News h₀ L h' ((row, W.listOf vs.toArray n) :: (tl ++ fz))) (R : RowIs vs ws') (hz : ∀ p ∈ tl, p.1 ≠ row) (hy : ∀ q ∈ fz, ∀ p ∈ tl, p.1 ≠ q.1) (D : DatIn tl r d) (S : Rd k ws d ws') :
    P r ((row, W.listOf vs.toArray n) :: (tl ++ fz)) h' tk := ret _ _ _ _ ⟨tl, n, vs, ws', d, rfl, R, hz, hy, D, S⟩ F N
theorem fin1' {wl : Addr} {ow : Obj} (ret : ∀ r news' h' tk', PPost fz row k ws r news' → Fr h₀ L h' m → News h₀ L h' news' → P r news' h' tk') (F : Fr h₀ L h' m) (N : News h₀ L h' ((row, W.listOf vs.toArray n) :: (tl ++ (wl, ow) :: fz))) (R : RowIs vs ws') (hz : ∀ p ∈ tl, p.1 ≠ row) (hy : ∀ q ∈ (wl, ow) :: fz, ∀ p ∈ tl, p.1 ≠ q.1) (D : DatIn tl r d) (S : Rd k ws d ws') :
    P r ((row, W.listOf vs.toArray n) :: (tl ++ fz)) h' tk := ret _ _ _ _ ⟨tl, n, vs, ws', d, rfl, R, hz, (fun q hq => hy q (List.mem_cons_of_mem _ hq)), D, S⟩ F (fun p hp => N p ((((List.sublist_cons_self _ _).append_left _).cons_cons _).subset hp))
theorem fin2 (ret : ∀ r news' h' tk', PPost fz row k ws r news' → Fr h₀ L h' m → News h₀ L h' news' → P r news' h' tk') (F : Fr h₀ L h' m) (N : News h₀ L h' ((x, o) :: (row, W.listOf vs.toArray n) :: (tl ++ fz))) (R : RowIs vs ws') (hx : row < x ∧ AllLt x (tl ++ fz)) (hz : ∀ p ∈ tl, p.1 ≠ row) (hy : ∀ q ∈ fz, ∀ p ∈ tl, p.1 ≠ q.1) (D : DatIn ((x, o) :: tl) r d) (S : Rd k ws d ws') :
    P r ((row, W.listOf vs.toArray n) :: ((x, o) :: (tl ++ fz))) h' tk := ret _ _ _ _ ⟨(x, o) :: tl, n, vs, ws', d, rfl, R, List.forall_mem_cons.mpr ⟨Nat.ne_of_gt hx.1, hz⟩, (fun q hq => List.forall_mem_cons.mpr ⟨Nat.ne_of_gt (ktn_ltOf hx.2 q (List.mem_append_right _ hq)), hy q hq⟩), D, S⟩ F (fun p hp => N p ((List.Perm.swap _ _ _).subset hp))
theorem fin3 {tla tlb : Led} {t : Addr} {ot : Obj} (ret : ∀ r news' h' tk', PPost fz row k ws r news' → Fr h₀ L h' m → News h₀ L h' news' → P r news' h' tk') (F : Fr h₀ L h' m) (N : News h₀ L h' ((x, o) :: (row, W.listOf vs.toArray n) :: (tlb ++ (t, ot) :: (tla ++ fz)))) (R : RowIs vs ws') (hx : row < x ∧ AllLt x (tlb ++ (t, ot) :: (tla ++ fz)))
    (za : ∀ p ∈ tla, p.1 ≠ row) (zb : ∀ p ∈ tlb, p.1 ≠ row) (ya : ∀ q ∈ fz, ∀ p ∈ tla, p.1 ≠ q.1) (yb : ∀ q ∈ (t, ot) :: (tla ++ fz), ∀ p ∈ tlb, p.1 ≠ q.1) (D : DatIn ((x, o) :: (tlb ++ tla)) r d) (S : Rd k ws d ws') :
    P r ((row, W.listOf vs.toArray n) :: ((x, o) :: (tlb ++ tla) ++ fz)) h' tk := ret _ _ _ _ ⟨(x, o) :: (tlb ++ tla), n, vs, ws', d, rfl, R, List.forall_mem_cons.mpr ⟨Nat.ne_of_gt hx.1, fun p hp => (List.mem_append.mp hp).elim (zb p) (za p)⟩, (fun q hq => List.forall_mem_cons.mpr ⟨Nat.ne_of_gt (ktn_ltOf hx.2 q (List.mem_append_right _ (.tail _ (List.mem_append_right _ hq)))), fun p hp => (List.mem_append.mp hp).elim (yb q (.tail _ (List.mem_append_right _ hq)) p) (ya q hq p)⟩), D, S⟩ F (fun p hp => N p (by
      rw [List.cons_append, List.append_assoc] at hp
      exact ((((List.sublist_cons_self _ _).append_left _).cons_cons _).cons_cons _).subset ((List.Perm.swap _ _ _).subset hp)))
theorem News.back2 {t : Addr} {ot R : Obj} {tla tlb : Led} (N : News h₀ L h' ((row, R) :: (tlb ++ (t, ot) :: (tla ++ fz)))) : News h₀ L h' ((row, R) :: fz) := fun p hp => N p (
  (((List.sublist_append_right tla fz).trans (List.sublist_cons_self _ _)).trans (List.sublist_append_right _ _)).cons_cons _ |>.subset hp)
theorem News.mid1 {a x : Addr × Obj} {tlb l : Led} (N : News h₀ L h' (a :: (tlb ++ x :: l))) : News h₀ L h' (a :: (tlb ++ l)) := fun p hp => N p ((((List.sublist_cons_self _ _).append_left _).cons_cons _).subset hp)
theorem News.mid2 {a b x : Addr × Obj} {tlb l : Led} (N : News h₀ L h' (a :: b :: (tlb ++ x :: l))) : News h₀ L h' (a :: b :: (tlb ++ l)) := fun p hp => N p (((((List.sublist_cons_self _ _).append_left _).cons_cons _).cons_cons _).subset hp)
theorem allLt_mid {a : Prop} {x : Addr} {t : Addr × Obj} {tlb l : Led} (h : a ∧ AllLt x (tlb ++ t :: l)) : a ∧ AllLt x (tlb ++ l) := ⟨h.1, allLt_of fun q hq => ktn_ltOf h.2 q (((List.sublist_cons_self _ _).append_left _).subset hq)⟩
theorem fresh_at {q : Addr} {oq : Obj} (Y : ∀ q ∈ fz, ∀ p ∈ tl, p.1 ≠ q.1) (m : (q, oq) ∈ fz) : ∀ p ∈ tl, p.1 ≠ q := Y _ m
theorem allLt_ne {a : Prop} {x y : Addr} {o : Obj} {l : Led} (h : a ∧ AllLt x l) (m : (y, o) ∈ l) : x ≠ y := Nat.ne_of_gt (ktn_ltOf h.2 _ m)
theorem upd_app {d : Addr} {o o' : Obj} {l l' a : Led} (h : ∀ p ∈ a, p.1 ≠ d) (u : Upd d o o' l l') : Upd d o o' (a ++ l) (a ++ l') := by
  induction a with
  | nil => exact u
  | cons p a ih => exact Upd.tail (h _ (.head _)) (ih fun p hp => h p (.tail _ hp))
end
theorem ws_eq {ws : List Str} (h : fw ws ≠ S "") : ws = fw ws :: ws.tail := by
  cases ws with
  | nil => exact absurd rfl h
  | cons x r => rfl
theorem Rd.nt' {ws d ws'} (h : (fw ws == S "~") = true) (r : Rd .fac ws.tail d ws') : Rd .fac ws (.list [.str (S "~"), d]) ws' := .nt (cls_nt.mpr (beq_t h)) r
theorem Rd.lp' {ws d us} (h : (fw ws == S "(") = true) (r : Rd .rel ws.tail d us) (q : (fw us == S ")") = true) : Rd .fac ws d us.tail := .lp (cls_lp.mpr (beq_t h)) r (cls_rp.mpr (beq_t q))
theorem Rd.lpBad' {ws d us} (h : (fw ws == S "(") = true) (r : Rd .rel ws.tail d us) (q : (fw us == S ")") = false) : Rd .fac ws .none us := .lpBad (cls_lp.mpr (beq_t h)) r (fun e => beq_f q (cls_rp.mp e))
theorem Rd.lb' {ws d us} (h : (fw ws == S "{") = true) (r : Rd (.set []) ws.tail d us) : Rd .fac ws d us := .lb (cls_lb.mpr (beq_t h)) r
theorem alHead_item {x : Str} (h : x ≠ S "") : alHead x = Txt.isalnum (Txt.item x 0) := by
  obtain ⟨⟨l⟩⟩ := x
  cases l with
  | nil => exact absurd (by decide +kernel) h
  | cons c l =>
    have e : Txt.charAt ⟨⟨c :: l⟩⟩ 0 = some c := by
      simp [Txt.charAt, seqIndex?, PySem.Str.length]
    unfold alHead Txt.item
    rw [e]; rfl
theorem Rd.wd' {ws} (a : (fw ws == S "~") = false) (b : (fw ws == S "(") = false) (c : (fw ws == S "{") = false) (d : (fw ws != S "") = true) (e : Txt.isalnum (Txt.item (fw ws) 0) = true) (f : (keyWords.any fun x => x == fw ws) = false) : Rd .fac ws (.str (fw ws)) ws.tail :=
  .wd ((cls_word (fun e => beq_f a (cls_nt.mp e)) (fun e => beq_f b (cls_lp.mp e)) (fun e => beq_f c (cls_lb.mp e))).mpr ⟨ne_bne d, (alHead_item (ne_bne d)).trans e, not_any f⟩)
theorem set_step {acc : List Dat} {us us1 : List Str} {p d : Dat} {w' : List Str} (n : ([S "}", S ""].any fun x => x == fw us) = false) (r : Rd .piece us p us1) :
    ((fw us1 == S ",") = true → Rd (.set (acc ++ [p])) us1.tail d w' → Rd (.set acc) us d w') ∧ ((fw us1 == S "}") = true → Rd (.set (acc ++ [p])) us1 d w' → Rd (.set acc) us d w') ∧ ((fw us1 == S ",") = false → (fw us1 == S "}") = false → Rd (.set acc) us .none us1) := by
  have n1 : cls (fw us) ≠ .rb := fun e => not_any n (cls_rb.mp e ▸ .head _)
  have n2 : cls (fw us) ≠ .eof := fun e => not_any n (cls_eof.mp e ▸ .tail _ (.head _))
  refine ⟨fun c q => .setComma n1 n2 r (cls_comma.mpr (beq_t c)) q, fun c q => ?_, fun c e => .setBad n1 n2 r (fun q => beq_f c (cls_comma.mp q)) (fun q => beq_f e (cls_rb.mp q))⟩
  have hc : cls (fw us1) = .rb := cls_rb.mpr (beq_t c)
  obtain ⟨rfl, rfl⟩ := (Rd.setEnd hc).det q
  exact .setLast n1 n2 r hc
theorem Rd.pRange' {us d1 us1 d2 us2} (r : Rd .rel us d1 us1) (c : (fw us1 == S "..") = true) (q : Rd .rel us1.tail d2 us2) : Rd .piece us (.list [.str (S ".."), d1, d2]) us2 := .pRange r (cls_dots.mpr (beq_t c)) q
theorem Rd.pOne' {us d1 us1} (r : Rd .rel us d1 us1) (c : (fw us1 == S "..") = false) : Rd .piece us (.list [.str (S "one"), d1]) us1 := .pOne r fun e => beq_f c (cls_dots.mp e)
theorem Rd.setOut {us acc} (c : ([S "}", S ""].any fun x => x == fw us) = true) : ((fw us == S "}") = true ∧ Rd (.set acc) us (.list (.str (S "{") :: acc)) us.tail) ∨ ((fw us == S "}") = false ∧ Rd (.set acc) us .none us) := by
  cases h : (fw us == S "}") with
  | true => exact .inl ⟨rfl, .setEnd (cls_rb.mpr (beq_t h))⟩
  | false => exact .inr ⟨rfl, .setEof (cls_eof.mpr (List.mem_singleton.mp ((List.mem_cons.mp (mem_any c)).resolve_left (beq_f h))))⟩
theorem Rd.bad' {ws} (a : (fw ws == S "~") = false) (b : (fw ws == S "(") = false) (c : (fw ws == S "{") = false) (d : fw ws = S "" ∨ Txt.isalnum (Txt.item (fw ws) 0) = false ∨ (keyWords.any fun x => x == fw ws) = true) : Rd .fac ws .none ws := by
  refine .bad (fun e => beq_f a (cls_nt.mp e)) (fun e => beq_f b (cls_lp.mp e)) (fun e => beq_f c (cls_lb.mp e)) fun q => ?_
  have q2 := (cls_word (fun e => beq_f a (cls_nt.mp e)) (fun e => beq_f b (cls_lp.mp e)) (fun e => beq_f c (cls_lb.mp e))).mp q
  rcases d with d | d | d
  · exact q2.1 d
  · rw [← alHead_item q2.1, q2.2.1] at d; cases d
  · exact q2.2.2 (mem_any d)
theorem rb_ne {us ws' : List Str} (n : ([S "}", S ""].any fun x => x == fw us) = false) (c : (fw ws' != S "}") = false) : fw ws' ≠ fw us := fun e => not_any n (e ▸ beq_t (bne_f c) ▸ .head _)
theorem News.sub {h₀ h : Heap} {L : Addr} {l l' : Led} (N : News h₀ L h l) (hs : ∀ p ∈ l', p ∈ l) : News h₀ L h l' := fun p hp => N p (hs p hp)
theorem suffix_lt {a b : List Str} (h : a <:+ b) (n : fw a ≠ fw b) : a.length < b.length := by
  obtain ⟨p, rfl⟩ := h
  cases p with
  | nil => exact absurd rfl n
  | cons x r => rw [List.cons_append, List.length_cons, List.length_append]; exact Nat.lt_succ_of_le (Nat.le_add_left _ _)
theorem DatAll.snoc {tl : Led} {v : Value} {d : Dat} {vs : List Value} {ds : List Dat} (h : DatAll tl vs ds) (k : DatIn tl v d) : DatAll tl (vs ++ [v]) (ds ++ [d]) := h.append (.cons k .nil)
inductive FacJ (fz : Led) (row : Addr) (ws : List Str) (n : Nat) (m₁ : Str → Option Value) (news₁ : Led) : Prop
  | mk (vs : List Value) (us : List Str) (k : Nat) (pl : Addr) (pv : List Value) (pk : Nat) (acc : List Dat) (tl : Led) : n = us.length → m₁ (S "row") = some (.ref row) → m₁ (S "pieces") = some (.ref pl) → news₁ = (pl, W.listOf (List.toArray pv) pk) :: (row, W.listOf (List.toArray vs) k) :: (tl ++ fz) → RowIs vs us → DatAll tl pv (.str (S "{") :: acc) → (∀ p ∈ tl, p.1 ≠ row) → (∀ p ∈ tl, p.1 ≠ pl) → (∀ q ∈ fz, ∀ p ∈ tl, p.1 ≠ q.1) → pl ≠ row → (∀ q ∈ fz, q.1 ≠ pl) → pv.length + us.length ≤ 4097 → us.length < ws.length → nest us + 1 ≤ nest ws → (∀ d w', Rd (.set acc) us d w' → Rd .fac ws d w') → FacJ fz row ws n m₁ news₁
theorem fac_turn {fz tl tlx : Led} {row pl x L : Addr} {o : Obj} {ws us us2 : List Str} {vs2 pv : List Value} {k2 pk tk : Nat} {acc : List Dat} {p : Dat} {m₂ : Str → Option Value} {g h' : Heap} {s₀ : Shared} {Q : Flow → Shared → Prop}
    (F : Fr g L h' m₂) (N : News g L h' ((x, o) :: (row, W.listOf vs2.toArray k2) :: (tlx ++ (pl, W.listOf (pv ++ [Value.ref x]).toArray (pk + 1)) :: (tl ++ fz))))
    (hx : row < x ∧ AllLt x (tlx ++ (pl, W.listOf pv.toArray pk) :: (tl ++ fz))) (R : RowIs vs2 us2) (hm1 : m₂ (S "row") = some (.ref row)) (hm2 : m₂ (S "pieces") = some (.ref pl)) (Dp : DatAll tl pv (.str (S "{") :: acc)) (D : DatIn ((x, o) :: tlx) (.ref x) p)
    (z1 : ∀ p ∈ tl, p.1 ≠ row) (z2 : ∀ p ∈ tl, p.1 ≠ pl) (z3 : ∀ q ∈ fz, ∀ p ∈ tl, p.1 ≠ q.1) (z4 : pl ≠ row) (z5 : ∀ q ∈ fz, q.1 ≠ pl) (Z : ∀ p ∈ tlx, p.1 ≠ row) (Y : ∀ q ∈ (pl, W.listOf pv.toArray pk) :: (tl ++ fz), ∀ p ∈ tlx, p.1 ≠ q.1)
    (z6 : pv.length + us.length ≤ 4097) (hl : us2.length < us.length) (z7 : us.length < ws.length) (hn : nest us2 ≤ nest us) (z8 : nest us + 1 ≤ nest ws) (z9 : ∀ d w', Rd (.set (acc ++ [p])) us2 d w' → Rd .fac ws d w') :
    WhileStep2 g L s₀ (FacJ fz row ws) Q us.length .next { s₀ with heap := h', toks := tk } := by
  have lt : ∀ q ∈ tlx ++ (pl, W.listOf pv.toArray pk) :: (tl ++ fz), q.1 < x := ktn_ltOf hx.2
  refine ⟨h', tk, m₂, (pl, W.listOf (pv ++ [Value.ref x]).toArray (pk + 1)) :: (row, W.listOf vs2.toArray k2) :: (((x, o) :: (tlx ++ tl)) ++ fz), us2.length, rfl, F, News.sub N ?_, hl,
    vs2, us2, k2, pl, pv ++ [Value.ref x], pk + 1, acc ++ [p], (x, o) :: (tlx ++ tl), rfl, hm1, hm2, rfl, R, ?_, ?_, ?_, ?_, z4, z5, ?_, Nat.lt_trans hl z7, Nat.le_trans (Nat.succ_le_succ hn) z8, z9⟩
  · intro q hq
    rw [List.cons_append, List.append_assoc] at hq
    rcases List.mem_cons.mp hq with rfl | hq
    · exact .tail _ (.tail _ (List.mem_append_right _ (.head _)))
    · exact (((List.sublist_cons_self _ _).append_left _).cons_cons _ |>.cons_cons _).subset ((List.Perm.swap _ _ _).subset hq)
  · have a := DatAll.mono (news' := (x, o) :: (tlx ++ tl)) (fun q hq => List.mem_cons_of_mem _ (List.mem_append_right _ hq)) Dp
    have b := DatIn.mono (news' := (x, o) :: (tlx ++ tl)) (fun q hq => ((List.sublist_append_left _ _).cons_cons _).subset hq) D
    exact DatAll.snoc a b
  · exact List.forall_mem_cons.mpr ⟨Nat.ne_of_gt hx.1, all_app Z z1⟩
  · exact List.forall_mem_cons.mpr ⟨Nat.ne_of_gt (lt (pl, _) (List.mem_append_right _ List.mem_cons_self)), all_app (Y _ List.mem_cons_self) z2⟩
  · exact fun q hq => List.forall_mem_cons.mpr ⟨Nat.ne_of_gt (lt q (List.mem_append_right _ (List.mem_cons_of_mem _ (List.mem_append_right _ hq)))), all_app (Y q (List.mem_cons_of_mem _ (List.mem_append_right _ hq))) (z3 q hq)⟩
  · rw [List.length_append, Nat.add_assoc, List.length_singleton, Nat.add_comm 1]
    exact Nat.le_trans (Nat.add_le_add_left hl _) z6
theorem Rd.termGo' {us d d2 ws1 d' w'} (dn : d ≠ .none) (c : (mulWords.any fun y => y == fw us) = true) (r : Rd .fac us.tail d2 ws1) (q : Rd (.termR (mk3 (fw us) d d2)) ws1 d' w') : Rd (.termR d) us d' w' := .termGo dn (cls_mul.mpr (mem_any c)) r q
theorem Rd.termStop' {us d} (c : d = .none ∨ (mulWords.any fun y => y == fw us) = false) : Rd (.termR d) us d us := .termStop (c.imp id fun c e => not_any c (cls_mul.mp e))
theorem Rd.sumGo' {us d d2 ws1 d' w'} (dn : d ≠ .none) (c : (sumWords.any fun y => y == fw us) = true) (r : Rd .term us.tail d2 ws1) (q : Rd (.sumR (mk3 (fw us) d d2)) ws1 d' w') : Rd (.sumR d) us d' w' := .sumGo dn (cls_sum.mpr (mem_any c)) r q
theorem Rd.sumStop' {us d} (c : d = .none ∨ (sumWords.any fun y => y == fw us) = false) : Rd (.sumR d) us d us := .sumStop (c.imp id fun c => ⟨fun e => not_any c (cls_sum.mp (.inl e)), fun e => not_any c (cls_sum.mp (.inr e))⟩)
theorem Rd.relGo' {ws d us d2 w'} (r : Rd .sum ws d us) (dn : d ≠ .none) (c : (relWords.any fun y => y == fw us) = true) (q : Rd .sum us.tail d2 w') : Rd .rel ws (mk3 (fw us) d d2) w' := .rel1 r dn (cls_rel.mpr (mem_any c)) q
theorem Rd.relStop' {ws d us} (r : Rd .sum ws d us) (c : d = .none ∨ (relWords.any fun y => y == fw us) = false) : Rd .rel ws d us := .rel0 r (c.imp id fun c e => not_any c (cls_rel.mp e))
theorem Rd.neg' {ws d w'} (c : (fw ws == S "-") = true) (r : Rd .term ws.tail d w') : Rd .signed ws (mk2 d) w' := .neg (cls_minus.mpr (beq_t c)) r
theorem Rd.pos' {ws d w'} (c : (fw ws == S "-") = false) (r : Rd .term ws d w') : Rd .signed ws d w' := .pos (fun e => beq_f c (cls_minus.mp e)) r
theorem datIn_none {tl : Led} {v : Value} {d : Dat} (D : DatIn tl v d) (h : (v == .none) = true) : d = .none := by
  rw [eq_of_beq h] at D; cases D; rfl
theorem datIn_ne {tl : Led} {v : Value} {d : Dat} (D : DatIn tl v d) (h : (v == .none) = false) : d ≠ .none := by
  rintro rfl; cases D; exact absurd h (by decide)
section
variable {fz tl : Led} {row pl t : Addr} {ot : Obj} {k : Kd} {ws us : List Str} {acc : List Dat} {pv : List Value} {n pk : Nat} {vs : List Value} {h₀ h' : Heap} {L : Addr} {m : Str → Option Value} {P : Value → Led → Heap → Nat → Prop} {tk : Nat}
theorem News.back {h : Heap} {tlx : Led} {x : Addr} {o : Obj} {R : Obj} (N : News h₀ L h ((x, o) :: (row, R) :: (tlx ++ (pl, ot) :: (tl ++ fz)))) : News h₀ L h ((row, R) :: fz) := fun p hp => N p (.tail _ (
  ((((List.sublist_append_right tl fz).trans (List.sublist_cons_self _ _)).trans (List.sublist_append_right _ _)).cons_cons _).subset hp))
inductive LoopJ (ex : (Str → Option Value) → Prop) (kR : Dat → Kd) (k : Kd) (fz : Led) (row : Addr) (ws : List Str) (n : Nat) (m₁ : Str → Option Value) (news₁ : Led) : Prop
  | mk (vs : List Value) (us : List Str) (j : Nat) (tl : Led) (v : Value) (d : Dat) : n = us.length → ex m₁ → m₁ (S "row") = some (.ref row) → m₁ (S "found") = some v → news₁ = (row, W.listOf (List.toArray vs) j) :: (tl ++ fz) → RowIs vs us → (∀ p ∈ tl, p.1 ≠ row) → (∀ q ∈ fz, ∀ p ∈ tl, p.1 ≠ q.1) → DatIn tl v d → us.length ≤ ws.length → nest us ≤ nest ws → (∀ d' w', Rd (kR d) us d' w' → Rd k ws d' w') → LoopJ ex kR k fz row ws n m₁ news₁
theorem loop_none {ex : (Str → Option Value) → Prop} {kR : Dat → Kd} {tlx : Led} {us2 : List Str} {vs2 : List Value} {k2 : Nat} {m₂ : Str → Option Value} {g : Heap} {s₀ : Shared} {Q : Flow → Shared → Prop}
    (F : Fr g L h' m₂) (N : News g L h' ((row, W.listOf vs2.toArray k2) :: (tlx ++ (tl ++ fz)))) (R : RowIs vs2 us2) (hex : ex m₂) (hm1 : m₂ (S "row") = some (.ref row)) (hm2 : m₂ (S "found") = some .none)
    (z1 : ∀ p ∈ tl, p.1 ≠ row) (z3 : ∀ q ∈ fz, ∀ p ∈ tl, p.1 ≠ q.1)
    (hl : us2.length < us.length) (z7 : us.length ≤ ws.length) (hn : nest us2 ≤ nest us) (z8 : nest us ≤ nest ws) (z9 : ∀ d w', Rd (kR .none) us2 d w' → Rd k ws d w') :
    WhileStep2 g L s₀ (LoopJ ex kR k fz row ws) Q us.length .next { s₀ with heap := h', toks := tk } :=
  ⟨h', tk, m₂, (row, W.listOf vs2.toArray k2) :: (tl ++ fz), us2.length, rfl, F, (fun p hp => N p (((List.sublist_append_right _ _).cons_cons _).subset hp)), hl, vs2, us2, k2, tl, .none, .none, rfl, hex, hm1, hm2, rfl, R, z1, z3, .none, Nat.le_trans (Nat.le_of_lt hl) z7, Nat.le_trans hn z8, z9⟩
theorem loop_some {ex : (Str → Option Value) → Prop} {kR : Dat → Kd} {tlx : Led} {x : Addr} {o : Obj} {us2 : List Str} {vs2 : List Value} {k2 : Nat} {e : Dat} {m₂ : Str → Option Value} {g : Heap} {s₀ : Shared} {Q : Flow → Shared → Prop}
    (F : Fr g L h' m₂) (N : News g L h' ((x, o) :: (row, W.listOf vs2.toArray k2) :: (tlx ++ (tl ++ fz)))) (hx : row < x ∧ AllLt x (tlx ++ (tl ++ fz))) (R : RowIs vs2 us2) (hex : ex m₂) (hm1 : m₂ (S "row") = some (.ref row)) (hm2 : m₂ (S "found") = some (.ref x))
    (z1 : ∀ p ∈ tl, p.1 ≠ row) (z3 : ∀ q ∈ fz, ∀ p ∈ tl, p.1 ≠ q.1) (Z : ∀ p ∈ tlx, p.1 ≠ row) (Y : ∀ q ∈ tl ++ fz, ∀ p ∈ tlx, p.1 ≠ q.1) (D : DatIn ((x, o) :: (tlx ++ tl)) (.ref x) e)
    (hl : us2.length < us.length) (z7 : us.length ≤ ws.length) (hn : nest us2 ≤ nest us) (z8 : nest us ≤ nest ws) (z9 : ∀ d w', Rd (kR e) us2 d w' → Rd k ws d w') :
    WhileStep2 g L s₀ (LoopJ ex kR k fz row ws) Q us.length .next { s₀ with heap := h', toks := tk } := by
  have lt : ∀ q ∈ tlx ++ (tl ++ fz), q.1 < x := ktn_ltOf hx.2
  refine ⟨h', tk, m₂, (row, W.listOf vs2.toArray k2) :: (((x, o) :: (tlx ++ tl)) ++ fz), us2.length, rfl, F, News.sub N ?_, hl, vs2, us2, k2, (x, o) :: (tlx ++ tl), .ref x, e, rfl, hex, hm1, hm2, rfl, R, ?_, ?_, D, Nat.le_trans (Nat.le_of_lt hl) z7, Nat.le_trans hn z8, z9⟩
  · intro q hq
    rw [List.cons_append, List.append_assoc] at hq
    exact (List.Perm.swap _ _ _).subset hq
  · exact List.forall_mem_cons.mpr ⟨Nat.ne_of_gt hx.1, all_app Z z1⟩
  · exact fun q hq => List.forall_mem_cons.mpr ⟨Nat.ne_of_gt (lt q (List.mem_append_right _ (List.mem_append_right _ hq))), all_app (Y q (List.mem_append_right _ hq)) (z3 q hq)⟩
theorem fac_ret (ret : ∀ r news' h' tk', PPost fz row k ws r news' → Fr h₀ L h' m → News h₀ L h' news' → P r news' h' tk') (F : Fr h₀ L h' m) (N : News h₀ L h' ((pl, W.listOf pv.toArray pk) :: (row, W.listOf vs.toArray n) :: (tl ++ fz))) (R : RowIs vs us)
    (Dp : DatAll tl pv (.str (S "{") :: acc)) (z1 : ∀ p ∈ tl, p.1 ≠ row) (z2 : ∀ p ∈ tl, p.1 ≠ pl) (z3 : ∀ q ∈ fz, ∀ p ∈ tl, p.1 ≠ q.1) (z4 : pl ≠ row) (z5 : ∀ q ∈ fz, q.1 ≠ pl) (S₁ : Rd k ws (.list (.str (S "{") :: acc)) us) :
    P (.ref pl) ((row, W.listOf vs.toArray n) :: (((pl, W.listOf pv.toArray pk) :: tl) ++ fz)) h' tk :=
  ret _ _ _ _ ⟨(pl, W.listOf pv.toArray pk) :: tl, n, vs, us, _, rfl, R, List.forall_mem_cons.mpr ⟨z4, z1⟩, (fun q hq => List.forall_mem_cons.mpr ⟨(z5 q hq).symm, z3 q hq⟩), .list List.mem_cons_self (DatAll.mono (fun _ h => List.mem_cons_of_mem _ h) Dp), S₁⟩ F
    (fun p hp => N p ((List.Perm.swap _ _ _).subset hp))
theorem fac_none (ret : ∀ r news' h' tk', PPost fz row k ws r news' → Fr h₀ L h' m → News h₀ L h' news' → P r news' h' tk') (F : Fr h₀ L h' m) (N : News h₀ L h' ((pl, W.listOf pv.toArray pk) :: (row, W.listOf vs.toArray n) :: (tl ++ fz))) (R : RowIs vs us)
    (z1 : ∀ p ∈ tl, p.1 ≠ row) (z2 : ∀ p ∈ tl, p.1 ≠ pl) (z3 : ∀ q ∈ fz, ∀ p ∈ tl, p.1 ≠ q.1) (z4 : pl ≠ row) (z5 : ∀ q ∈ fz, q.1 ≠ pl) (S₁ : Rd k ws .none us) :
    P .none ((row, W.listOf vs.toArray n) :: (tl ++ fz)) h' tk :=
  ret _ _ _ _ ⟨tl, n, vs, us, _, rfl, R, z1, z3, .none, S₁⟩ F (fun p hp => N p (.tail _ hp))
end
theorem News.t1 {h₀ h : Heap} {L : Addr} {a : Addr × Obj} {l : Led} (N : News h₀ L h (a :: l)) : News h₀ L h l := fun p hp => N p (.tail _ hp)
theorem News.sw {h₀ h : Heap} {L : Addr} {a b : Addr × Obj} {l : Led} (N : News h₀ L h (a :: b :: l)) : News h₀ L h (b :: a :: l) := fun p hp => N p ((List.Perm.swap _ _ _).subset hp)
end T_B0
section T_B1
local macro_rules | `(tactic| walk_at "no such key 0") => `(tactic| fail)
section
local macro_rules | `(tactic| ktr_room) => `(tactic| exact rm0 (by assumption))
local macro_rules | `(tactic| ktr_units) => `(tactic| exact rm1 (by assumption))
local macro_rules | `(tactic| k_ne) => `(tactic| ((try dsimp only); first | with_reducible assumption | exact Nat.ne_of_gt (by simp only [*]) | exact Nat.ne_of_lt (by simp only [*])))
local macro_rules | `(tactic| k_mem) => `(tactic| first | assumption | exact List.mem_cons_self | (refine' List.mem_cons_of_mem _ ?_; k_mem) | (refine' List.mem_append_left _ ?_; k_mem) | (refine' List.mem_append_right _ ?_; k_mem))
local macro_rules | `(tactic| k_all) => `(tactic| assumption)
theorem next_runs (w : World) (news : Led) (row : Addr) (n : Nat) (vs : List Value) (ws : List Str) (hm : (row, W.listOf vs.toArray n) ∈ news) (R : RowIs vs ws) :
    Runs w 1 news 431 [.ref row] (fun r news' => news' = news ∧ ∃ t, r = .str (fw ws) t) := by
  unfold Runs
  w_top off
  k_fill
  intro p loose mean mg mb dp un gd cn cs a ccd cl outer A₀ base h₀ L m s Q E B F X N T hk hd hu hret
  refine wpAny_call ?_
  k_dflt ktr_enter
  repeat' (first | (k_unfold; (try dsimp only)) | (k_end; wrow_close) | ((with_reducible show wpAny _ _ (subscriptTail _ _ _ _) _ _ _); first | (k_here; k_dflt (refine' row_last ?N ?ma ?R ?hn ?_; (case N => k_asm); (case ma => k_mem); (case R => assumption); (case hn => assumption)); intro _)) | ((with_reducible show wpAny _ _ (compareOp CmpOp.NotEq (Value.ref _) (Value.ref _)) _ _ _); first | (k_here; k_dflt (refine' row_ne_nil ?N ?ma ?R ?mb ?hu ?_; (case N => k_asm); (case ma => k_mem); (case R => assumption); (case mb => k_mem); (case hu => ktr_units)))) | walk1 | (dsimp only; walk1) | (leave1; walk_say "STEP leave1"; try dsimp only) | fail "no step")
  · have e : ws = [] := List.isEmpty_iff.mp (by assumption)
    subst e
    exact hret _ _ _ _ ⟨rfl, _, rfl⟩ (by assumption) (News.t1 (by assumption))
  · exact hret _ _ _ _ ⟨rfl, _, rfl⟩ (by assumption) (News.t1 (by assumption))
end
end T_B1
section G_P1
theorem l1_ne {x row : Addr} {fz : Led} (h : row < x ∧ AllLt x fz) : ∀ q ∈ fz, q.1 ≠ x := fun q hq => Nat.ne_of_lt (ktn_ltOf h.2 q hq)
local macro_rules | `(tactic| ktr_room) => `(tactic| exact rm0 (by assumption))
local macro_rules | `(tactic| ktr_units) => `(tactic| exact rm1 (by assumption))
local macro_rules | `(tactic| k_ne) => `(tactic| ((try dsimp only); first | with_reducible assumption | exact Nat.ne_of_gt (by simp only [*]) | exact Nat.ne_of_lt (by simp only [*])))
local macro_rules | `(tactic| k_mem) => `(tactic| first | assumption | exact List.mem_cons_self | (refine' List.mem_cons_of_mem _ ?_; k_mem) | (refine' List.mem_append_left _ ?_; k_mem) | (refine' List.mem_append_right _ ?_; k_mem))
local macro_rules | `(tactic| k_upd) => `(tactic| (refine' upd_app ?a ?b; (case a => k_all); (case b => k_upd)))
local macro_rules | `(tactic| k_ne) => `(tactic| first | assumption | exact Ne.symm (by assumption))
local macro_rules | `(tactic| k_ne) => `(tactic| (refine' allLt_ne ?h ?m; (case h => assumption); (case m => k_mem)))
local macro_rules | `(tactic| k_all) => `(tactic| (refine' fresh_at ?Y ?m; (case Y => assumption); (case m => k_mem)))
local macro_rules | `(tactic| k_all) => `(tactic| (refine' all_app ?a ?b; (case a => k_all); (case b => k_all)))
local macro_rules | `(tactic| k_all) => `(tactic| assumption)
local macro_rules | `(tactic| walk_at "call ref") => `(tactic| (k_here; refine Held.of ?_))
local macro_rules | `(tactic| walk_at "n le") => `(tactic| first | with_reducible assumption | exact Nat.le_refl _ | (refine Nat.le_trans (by with_reducible assumption) ?_; walk_at "n le") | (refine Nat.le_trans (Nat.le_of_lt (by with_reducible assumption)) ?_; walk_at "n le"))
local macro_rules | `(tactic| walk_at "n lt") => `(tactic| first | with_reducible assumption | exact Nat.lt_succ_of_le (by walk_at "n le") | (refine Nat.lt_of_le_of_lt (by with_reducible assumption) ?_; walk_at "n lt") | (refine Nat.lt_of_lt_of_le (by with_reducible assumption) ?_; walk_at "n le"))
local macro_rules | `(tactic| walk_at "n room") => `(tactic| first | exact room_1 (by decide) | exact room_n (by walk_at "n le") (by decide) | exact room_s (n_lt (by with_reducible assumption) (by walk_at "n le")) (by decide))
local macro_rules | `(tactic| walk_at "last exec While") => `(tactic| (k_here; refine Held.of ?_))
local macro_rules | `(tactic| walk_at "exec While Compare cons nil") => `(tactic| (k_here; refine Held.of ?_))
section T_P1
section
theorem fac_ok (w : World) (ws : List Str) (IHr : PAll w .rel 7 473 ws.length) (IHf : PAll w .fac 2 438 ws.length) : POk w .fac 2 438 ws := by
  intro hl fz row n vs hz R
  unfold Runs
  w_top off
  k_fill
  intro p loose mean mg mb dp un gd cn cs a ccd cl outer A₀ base h₀ L m s Q E B F X N T hk hd hu hret
  refine wpAny_call ?_
  k_dflt ktr_enter
  repeat' (first | (k_unfold; (try dsimp only)) | (k_end; wrow_close) | ((with_reducible show wpAny _ _ (call (Value.ref _) _ _) _ _ _); first | (k_here; k_dflt (refine' Runs.useP (PAll.run ?P ?lt ?hl ?hz ?R) (F := by k_asm) (B := by k_asm) (X := by k_asm) (T := by k_asm) (hk := by first | exact rfl | assumption) (N := ?N) (hd := ?hd) (hu := ?hu) (ret := ?_); (case P => assumption); (case N => first | k_asm | exact News.sw (by k_asm) | exact News.sw (News.t1 (by k_asm)) | exact News.t1 (by k_asm)); (case R => assumption); (case hz => k_all); (case lt => walk_at "n lt"); (case hl => walk_at "n le"); (case hd => exact room_d (by with_reducible assumption) (by exact rfl) (by walk_at "n room")); (case hu => exact room_u _ (by with_reducible assumption) (by exact rfl) (by walk_at "n room")); intro _ _ _ _ _ _ _ _ _ _ _ _ _ _ _ _ _; (try dsimp only); k_sweep)) | (k_here; k_dflt (refine' Runs.useS (next_runs _ _ _ _ _ _ ?hm ?R) (F := by k_asm) (B := by k_asm) (X := by k_asm) (T := by k_asm) (hk := by first | exact rfl | assumption) (N := ?N) (hd := ?hd) (hu := ?hu) (ret := ?_); (case N => k_asm); (case R => assumption); (case hm => k_mem); (case hd => exact room_d (by with_reducible assumption) (by exact rfl) (by walk_at "n room")); (case hu => exact room_u 1 (by with_reducible assumption) (by exact rfl) (by walk_at "n room")); intro _ _ _ _ _; (try dsimp only); k_sweep))) | ((with_reducible show wpAny _ _ (call (Value.builtin "list.pop") _ _) _ _ _); first | (k_here; k_dflt (refine' row_pop ?F ?N ?U ?R ?l ?z ?_; (case F => k_asm); (case N => k_asm); (case U => k_upd); (case R => assumption); (case l => first | exact ne_lit (by assumption) (by decide +kernel) | exact ne_bne (by assumption)); (case z => walk_at "n le")); (intro _ _ _ _ _ _ _; (try have _ := nest_pop' (by assumption) (by decide +kernel)); k_sweep))) | ((with_reducible show wpAny _ _ (call (Value.builtin "list.append") _ _) _ _ _); first | (k_here; k_dflt (refine' row_append ?F ?N ?U ?z ?_; (case F => k_asm); (case N => k_asm); (case U => k_upd); (case z => exact app_z (by with_reducible assumption))); (intro _ _ _; k_sweep))) | ((with_reducible show wpAny _ _ (eval (Expr.Name _ _) _) _ _ _); first | (k_here; k_dflt (refine' ld ?k1 ?k2 ?_; (case k1 => k_asm); (case k2 => assumption); k_whole))) | walk1 | (dsimp only; walk1) | (leave1; walk_say "STEP leave1"; try dsimp only) | fail "no step")
  · exact fin2 (P := fun r _ h' tk' => Q r { s with heap := h', toks := tk' }) hret (by assumption) (by assumption) (by assumption) (by assumption) (by assumption) (by assumption) (DatIn.list (vs := [_, _]) List.mem_cons_self (.cons (.str _ _) (.cons (DatIn.mono (fun _ h => List.mem_cons_of_mem _ h) (by assumption)) .nil))) (Rd.nt' (by assumption) (by assumption))
  · exact fin1 (P := fun r _ h' tk' => Q r { s with heap := h', toks := tk' }) hret (by assumption) (by assumption) (by assumption) (by assumption) (by assumption) (by assumption) (Rd.lp' (by assumption) (by assumption) (by assumption))
  · exact fin1 (P := fun r _ h' tk' => Q r { s with heap := h', toks := tk' }) hret (by assumption) (by assumption) (by assumption) (by assumption) (by assumption) .none (Rd.lpBad' (by assumption) (by assumption) (by assumption))
  · refine Held.mk ?_
    have hne : (fw ws == S "{") = true := by assumption
    (with_reducible rename Fr _ _ _ _ => F1)
    (with_reducible rename News _ _ _ _ => N1)
    k_dflt refine While_inv2 (n₀ := ws.tail.length) (FacJ fz row ws) F1 N1 ?J ?turn
    case J =>
      refine ⟨_, _, _, _, _, _, [], [], rfl, rfl, rfl, rfl, by assumption, .cons (.str _ _) .nil, (fun _ h => nomatch h), (fun _ h => nomatch h), (fun _ _ _ h => nomatch h), ?_, ?_, ?_, by walk_at "n lt", by with_reducible assumption, fun d w' r => Rd.lb' hne r⟩
      · first | k_ne | fail
      · exact l1_ne (by assumption)
      · simp only [List.length_singleton]; lia
    case turn =>
      intro n m₁ news₁ h₁ tk₁ F₁ N₁ hJ
      obtain ⟨vs, us, k, pl, pv, pk, acc, tl, rfl, hm1, hm2, rfl, Ru, Dp, z1, z2, z3, z4, z5, z6, z7, z8, z9⟩ := hJ
      clear F1 N1
      repeat' (first | (k_unfold; (try dsimp only)) | (k_end; wrow_close) | ((with_reducible show wpAny _ _ (call (Value.ref _) _ _) _ _ _); first | (k_here; k_dflt (refine' Runs.useP (PAll.run ?P ?lt ?hl ?hz ?R) (F := by k_asm) (B := by k_asm) (X := by k_asm) (T := by k_asm) (hk := by first | exact rfl | assumption) (N := ?N) (hd := ?hd) (hu := ?hu) (ret := ?_); (case P => assumption); (case N => first | k_asm | exact News.sw (by k_asm) | exact News.sw (News.t1 (by k_asm)) | exact News.t1 (by k_asm)); (case R => assumption); (case hz => k_all); (case lt => walk_at "n lt"); (case hl => walk_at "n le"); (case hd => exact room_d (by with_reducible assumption) (by exact rfl) (by walk_at "n room")); (case hu => exact room_u _ (by with_reducible assumption) (by exact rfl) (by walk_at "n room")); intro _ _ _ _ _ _ _ _ _ _ _ _ _ _ _ _ _; (try dsimp only); k_sweep)) | (k_here; k_dflt (refine' Runs.useS (next_runs _ _ _ _ _ _ ?hm ?R) (F := by k_asm) (B := by k_asm) (X := by k_asm) (T := by k_asm) (hk := by first | exact rfl | assumption) (N := ?N) (hd := ?hd) (hu := ?hu) (ret := ?_); (case N => k_asm); (case R => assumption); (case hm => k_mem); (case hd => exact room_d (by with_reducible assumption) (by exact rfl) (by walk_at "n room")); (case hu => exact room_u 1 (by with_reducible assumption) (by exact rfl) (by walk_at "n room")); intro _ _ _ _ _; (try dsimp only); k_sweep))) | ((with_reducible show wpAny _ _ (call (Value.builtin "list.pop") _ _) _ _ _); first | (k_here; k_dflt (refine' row_pop ?F ?N ?U ?R ?l ?z ?_; (case F => k_asm); (case N => k_asm); (case U => k_upd); (case R => assumption); (case l => first | exact ne_lit (by assumption) (by decide +kernel) | exact ne_bne (by assumption)); (case z => walk_at "n le")); (intro _ _ _ _ _ _ _; (try have _ := nest_pop' (by assumption) (by decide +kernel)); k_sweep))) | ((with_reducible show wpAny _ _ (call (Value.builtin "list.append") _ _) _ _ _); first | (k_here; k_dflt (refine' row_append ?F ?N ?U ?z ?_; (case F => k_asm); (case N => k_asm); (case U => k_upd); (case z => exact app_z (by with_reducible assumption))); (intro _ _ _; k_sweep))) | ((with_reducible show wpAny _ _ (eval (Expr.Name _ _) _) _ _ _); first | (k_here; k_dflt (refine' ld ?k1 ?k2 ?_; (case k1 => k_asm); (case k2 => assumption); k_whole))) | walk1 | (dsimp only; walk1) | (leave1; walk_say "STEP leave1"; try dsimp only) | fail "no step")
      · have c : ([S "}", S ""].any fun x => x == fw us) = true := by assumption
        rcases Rd.setOut (acc := acc) c with ⟨_, q⟩ | ⟨c2, _⟩
        · exact fac_ret (P := fun r _ h' tk' => Q r { s with heap := h', toks := tk' }) hret (by assumption) (News.t1 (by assumption)) (by assumption) Dp z1 z2 z3 z4 z5 (z9 _ _ q)
        · have c3 : (fw us == S "}") = true := by assumption
          rw [c3] at c2; cases c2
      · have c : ([S "}", S ""].any fun x => x == fw us) = true := by assumption
        rcases Rd.setOut (acc := acc) c with ⟨c2, _⟩ | ⟨_, q⟩
        · have c3 : (fw us == S "}") = false := by assumption
          rw [c3] at c2; cases c2
        · exact fac_none (P := fun r _ h' tk' => Q r { s with heap := h', toks := tk' }) hret (by assumption) (News.t1 (by assumption)) (by assumption) z1 z2 z3 z4 z5 (z9 _ _ q)
      · rename_i tla ka vsa wsa da Ra Za Ya Da Sa hLa hMa b1 b2 b3 b4 b5 ca b6 b7 b8 b9 b10 b11 r9b b12 b13 tlb kb vsb wsb db Rb Zb Yb Db Sb hLb hMb x b14 hx b15 b16 b17 b18 b19 cb b20 b21 Fb Nb Rc hLc hMc
        rw [← List.append_assoc] at Nb hx
        exact fac_turn Fb Nb hx Rc hm1 hm2 Dp (DatIn.list (vs := [_, _, _]) List.mem_cons_self (.cons (.str _ _) (.cons (DatIn.mono (fun _ h => List.mem_cons_of_mem _ (List.mem_append_right _ h)) Da) (.cons (DatIn.mono (fun _ h => List.mem_cons_of_mem _ (List.mem_append_left _ h)) Db) .nil)))) z1 z2 z3 z4 z5 (all_app Zb Za) (fun q hq => all_app (Yb q (List.mem_append_right _ hq)) (Ya q hq)) z6 (by walk_at "n lt") z7 (by walk_at "n le") z8 (fun d w' r => z9 d w' ((set_step (by assumption) (Rd.pRange' Sa ca Sb)).1 cb r))
      · rename_i tla ka vsa wsa da Ra Za Ya Da Sa hLa hMa b1 b2 b3 b4 b5 ca b6 b7 b8 b9 hLx hMx r9b b12 b13 tlb kb vsb wsb db Rb Zb Yb Db Sb hLb hMb x b14 hx b15 b16 b17 b18 b19 cb b20 b21 b22 Fb b23 Nb cc
        unfold WhileStep2; dsimp only
        repeat' (first | (k_unfold; (try dsimp only)) | (k_end; wrow_close) | ((with_reducible show wpAny _ _ (call (Value.ref _) _ _) _ _ _); first | (k_here; k_dflt (refine' Runs.useP (PAll.run ?P ?lt ?hl ?hz ?R) (F := by k_asm) (B := by k_asm) (X := by k_asm) (T := by k_asm) (hk := by first | exact rfl | assumption) (N := ?N) (hd := ?hd) (hu := ?hu) (ret := ?_); (case P => assumption); (case N => first | k_asm | exact News.sw (by k_asm) | exact News.sw (News.t1 (by k_asm)) | exact News.t1 (by k_asm)); (case R => assumption); (case hz => k_all); (case lt => walk_at "n lt"); (case hl => walk_at "n le"); (case hd => exact room_d (by with_reducible assumption) (by exact rfl) (by walk_at "n room")); (case hu => exact room_u _ (by with_reducible assumption) (by exact rfl) (by walk_at "n room")); intro _ _ _ _ _ _ _ _ _ _ _ _ _ _ _ _ _; (try dsimp only); k_sweep)) | (k_here; k_dflt (refine' Runs.useS (next_runs _ _ _ _ _ _ ?hm ?R) (F := by k_asm) (B := by k_asm) (X := by k_asm) (T := by k_asm) (hk := by first | exact rfl | assumption) (N := ?N) (hd := ?hd) (hu := ?hu) (ret := ?_); (case N => k_asm); (case R => assumption); (case hm => k_mem); (case hd => exact room_d (by with_reducible assumption) (by exact rfl) (by walk_at "n room")); (case hu => exact room_u 1 (by with_reducible assumption) (by exact rfl) (by walk_at "n room")); intro _ _ _ _ _; (try dsimp only); k_sweep))) | ((with_reducible show wpAny _ _ (call (Value.builtin "list.pop") _ _) _ _ _); first | (k_here; k_dflt (refine' row_pop ?F ?N ?U ?R ?l ?z ?_; (case F => k_asm); (case N => k_asm); (case U => k_upd); (case R => assumption); (case l => first | exact ne_lit (by assumption) (by decide +kernel) | exact ne_bne (by assumption)); (case z => walk_at "n le")); (intro _ _ _ _ _ _ _; (try have _ := nest_pop' (by assumption) (by decide +kernel)); k_sweep))) | ((with_reducible show wpAny _ _ (call (Value.builtin "list.append") _ _) _ _ _); first | (k_here; k_dflt (refine' row_append ?F ?N ?U ?z ?_; (case F => k_asm); (case N => k_asm); (case U => k_upd); (case z => exact app_z (by with_reducible assumption))); (intro _ _ _; k_sweep))) | ((with_reducible show wpAny _ _ (eval (Expr.Name _ _) _) _ _ _); first | (k_here; k_dflt (refine' ld ?k1 ?k2 ?_; (case k1 => k_asm); (case k2 => assumption); k_whole))) | walk1 | (dsimp only; walk1) | (leave1; walk_say "STEP leave1"; try dsimp only) | fail "no step")
        exact fin0 (P := fun r _ h' tk' => Q r { s with heap := h', toks := tk' }) hret (by assumption) (News.back (tlx := tlb ++ tla) (by rw [List.append_assoc]; assumption)) Rb .none (z9 _ _ ((set_step (d := .none) (w' := []) (by assumption) (Rd.pRange' Sa ca Sb)).2.2 cb (bne_t cc)))
      · rename_i tla ka vsa wsa da Ra Za Ya Da Sa hLa hMa b1 b2 b3 b4 b5 ca b6 b7 b8 b9 hLx hMx r9b b12 b13 tlb kb vsb wsb db Rb Zb Yb Db Sb hLb hMb x b14 hx b15 b16 b17 b18 b19 cb b20 b21 b22 Fb b23 Nb cc
        rw [← List.append_assoc] at Nb hx
        exact fac_turn Fb Nb hx Rb hm1 hm2 Dp (DatIn.list (vs := [_, _, _]) List.mem_cons_self (.cons (.str _ _) (.cons (DatIn.mono (fun _ h => List.mem_cons_of_mem _ (List.mem_append_right _ h)) Da) (.cons (DatIn.mono (fun _ h => List.mem_cons_of_mem _ (List.mem_append_left _ h)) Db) .nil)))) z1 z2 z3 z4 z5 (all_app Zb Za) (fun q hq => all_app (Yb q (List.mem_append_right _ hq)) (Ya q hq)) z6 (by walk_at "n lt") z7 (by walk_at "n le") z8 (fun d w' r => z9 d w' ((set_step (by assumption) (Rd.pRange' Sa ca Sb)).2.1 (bne_f cc) r))
      · (with_reducible rename Fr _ _ _ _ => Fb)
        (with_reducible rename News _ _ _ _ => Nb)
        exact fac_turn Fb Nb (by assumption) (by assumption) hm1 hm2 Dp (DatIn.list (vs := [_, _]) List.mem_cons_self (.cons (.str _ _) (.cons (DatIn.mono (fun _ h => List.mem_cons_of_mem _ h) (by assumption)) .nil))) z1 z2 z3 z4 z5 (by assumption) (by assumption) z6 (by walk_at "n lt") z7 (by walk_at "n le") z8 (fun d w' r => z9 d w' ((set_step (by assumption) (Rd.pOne' (by assumption) (by assumption))).1 (by assumption) r))
      · unfold WhileStep2; dsimp only
        repeat' (first | (k_unfold; (try dsimp only)) | (k_end; wrow_close) | ((with_reducible show wpAny _ _ (call (Value.ref _) _ _) _ _ _); first | (k_here; k_dflt (refine' Runs.useP (PAll.run ?P ?lt ?hl ?hz ?R) (F := by k_asm) (B := by k_asm) (X := by k_asm) (T := by k_asm) (hk := by first | exact rfl | assumption) (N := ?N) (hd := ?hd) (hu := ?hu) (ret := ?_); (case P => assumption); (case N => first | k_asm | exact News.sw (by k_asm) | exact News.sw (News.t1 (by k_asm)) | exact News.t1 (by k_asm)); (case R => assumption); (case hz => k_all); (case lt => walk_at "n lt"); (case hl => walk_at "n le"); (case hd => exact room_d (by with_reducible assumption) (by exact rfl) (by walk_at "n room")); (case hu => exact room_u _ (by with_reducible assumption) (by exact rfl) (by walk_at "n room")); intro _ _ _ _ _ _ _ _ _ _ _ _ _ _ _ _ _; (try dsimp only); k_sweep)) | (k_here; k_dflt (refine' Runs.useS (next_runs _ _ _ _ _ _ ?hm ?R) (F := by k_asm) (B := by k_asm) (X := by k_asm) (T := by k_asm) (hk := by first | exact rfl | assumption) (N := ?N) (hd := ?hd) (hu := ?hu) (ret := ?_); (case N => k_asm); (case R => assumption); (case hm => k_mem); (case hd => exact room_d (by with_reducible assumption) (by exact rfl) (by walk_at "n room")); (case hu => exact room_u 1 (by with_reducible assumption) (by exact rfl) (by walk_at "n room")); intro _ _ _ _ _; (try dsimp only); k_sweep))) | ((with_reducible show wpAny _ _ (call (Value.builtin "list.pop") _ _) _ _ _); first | (k_here; k_dflt (refine' row_pop ?F ?N ?U ?R ?l ?z ?_; (case F => k_asm); (case N => k_asm); (case U => k_upd); (case R => assumption); (case l => first | exact ne_lit (by assumption) (by decide +kernel) | exact ne_bne (by assumption)); (case z => walk_at "n le")); (intro _ _ _ _ _ _ _; (try have _ := nest_pop' (by assumption) (by decide +kernel)); k_sweep))) | ((with_reducible show wpAny _ _ (call (Value.builtin "list.append") _ _) _ _ _); first | (k_here; k_dflt (refine' row_append ?F ?N ?U ?z ?_; (case F => k_asm); (case N => k_asm); (case U => k_upd); (case z => exact app_z (by with_reducible assumption))); (intro _ _ _; k_sweep))) | ((with_reducible show wpAny _ _ (eval (Expr.Name _ _) _) _ _ _); first | (k_here; k_dflt (refine' ld ?k1 ?k2 ?_; (case k1 => k_asm); (case k2 => assumption); k_whole))) | walk1 | (dsimp only; walk1) | (leave1; walk_say "STEP leave1"; try dsimp only) | fail "no step")
        exact fin0 (P := fun r _ h' tk' => Q r { s with heap := h', toks := tk' }) hret (by assumption) (News.back (by assumption)) (by assumption) .none (z9 _ _ ((set_step (d := .none) (w' := []) (by assumption) (Rd.pOne' (by assumption) (by assumption))).2.2 (by assumption) (bne_t (by assumption))))
      · have hlt := suffix_lt (Rd.suffix (by assumption : Rd .rel us _ _)) (rb_ne (by assumption) (by assumption))
        (with_reducible rename Fr _ _ _ _ => Fb)
        (with_reducible rename News _ _ _ _ => Nb)
        exact fac_turn Fb Nb (by assumption) (by assumption) hm1 hm2 Dp (DatIn.list (vs := [_, _]) List.mem_cons_self (.cons (.str _ _) (.cons (DatIn.mono (fun _ h => List.mem_cons_of_mem _ h) (by assumption)) .nil))) z1 z2 z3 z4 z5 (by assumption) (by assumption) z6 hlt z7 (by walk_at "n le") z8 (fun d w' r => z9 d w' ((set_step (by assumption) (Rd.pOne' (by assumption) (by assumption))).2.1 (bne_f (by assumption)) r))
  · exact fin0 (P := fun r _ h' tk' => Q r { s with heap := h', toks := tk' }) hret (by assumption) (News.t1 (by assumption)) (by assumption) .none (Rd.bad' (by assumption) (by assumption) (by assumption) (.inr (.inr (by assumption))))
  · exact fin0 (P := fun r _ h' tk' => Q r { s with heap := h', toks := tk' }) hret (by assumption) (News.t1 (by assumption)) (by assumption) (.str _ _) (Rd.wd' (by assumption) (by assumption) (by assumption) (by assumption) (by assumption) (by assumption))
  · exact fin0 (P := fun r _ h' tk' => Q r { s with heap := h', toks := tk' }) hret (by assumption) (by assumption) (by assumption) .none (Rd.bad' (by assumption) (by assumption) (by assumption) (.inr (.inl (by assumption))))
  · exact fin0 (P := fun r _ h' tk' => Q r { s with heap := h', toks := tk' }) hret (by assumption) (by assumption) (by assumption) .none (Rd.bad' (by assumption) (by assumption) (by assumption) (.inl (by simp_all)))
end
end T_P1
local macro_rules | `(tactic| walk_at "compareOp IsNot") => `(tactic| (k_here; refine isNot_none ?_))
local macro_rules | `(tactic| walk_at "compareOp Is") => `(tactic| (k_here; refine is_none ?_))
local macro_rules | `(tactic| walk_at "exec While BoolOp cons nil") => `(tactic| (k_here; refine Held.of ?_))
section T_P2
section
theorem chain_ok (w : World) (ws : List Str) (IHf : PAll w .fac 2 438 (ws.length + 1)) (hl : ws.length ≤ 4096) (fz : Led) (row : Addr) (n : Nat) (vs : List Value) (wl : Addr) (wv : List Value) (wn : Nat) (hw : (wl, W.listOf wv.toArray wn) ∈ fz) (hv : StrVals wv mulWords)
    (hz : ∀ p ∈ fz, p.1 ≠ row) (R : RowIs vs ws) : Runs w (3 + 6 * nest ws) ((row, W.listOf vs.toArray n) :: fz) 445 [.ref row, .ref wl, .ref 438] (PPost fz row .term ws) := by
  unfold Runs
  w_top off
  k_fill
  intro p loose mean mg mb dp un gd cn cs a ccd cl outer A₀ base h₀ L m s Q E B F X N T hk hd hu hret
  refine wpAny_call ?_
  k_dflt ktr_enter
  repeat' (first | (k_unfold; (try dsimp only)) | (k_end; wrow_close) | ((with_reducible show wpAny _ _ (call (Value.ref _) _ _) _ _ _); first | (k_here; k_dflt (refine' Runs.useP (PAll.run ?P ?lt ?hl ?hz ?R) (F := by k_asm) (B := by k_asm) (X := by k_asm) (T := by k_asm) (hk := by first | exact rfl | assumption) (N := ?N) (hd := ?hd) (hu := ?hu) (ret := ?_); (case P => assumption); (case N => first | k_asm | exact News.sw (by k_asm) | exact News.sw (News.t1 (by k_asm)) | exact News.t1 (by k_asm)); (case R => assumption); (case hz => k_all); (case lt => walk_at "n lt"); (case hl => walk_at "n le"); (case hd => exact room_d (by with_reducible assumption) (by exact rfl) (by walk_at "n room")); (case hu => exact room_u _ (by with_reducible assumption) (by exact rfl) (by walk_at "n room")); intro _ _ _ _ _ _ _ _ _ _ _ _ _ _ _ _ _; (try dsimp only); k_sweep)) | (k_here; k_dflt (refine' Runs.useS (next_runs _ _ _ _ _ _ ?hm ?R) (F := by k_asm) (B := by k_asm) (X := by k_asm) (T := by k_asm) (hk := by first | exact rfl | assumption) (N := ?N) (hd := ?hd) (hu := ?hu) (ret := ?_); (case N => k_asm); (case R => assumption); (case hm => k_mem); (case hd => exact room_d (by with_reducible assumption) (by exact rfl) (by walk_at "n room")); (case hu => exact room_u 1 (by with_reducible assumption) (by exact rfl) (by walk_at "n room")); intro _ _ _ _ _; (try dsimp only); k_sweep))) | ((with_reducible show wpAny _ _ (call (Value.builtin "list.pop") _ _) _ _ _); first | (k_here; k_dflt (refine' row_pop ?F ?N ?U ?R ?l ?z ?_; (case F => k_asm); (case N => k_asm); (case U => k_upd); (case R => assumption); (case l => first | exact ne_lit (by assumption) (by decide +kernel) | exact ne_bne (by assumption) | exact ne_any (by assumption) (by decide +kernel)); (case z => walk_at "n le")); (intro _ _ _ _ _ _ _; (try have _ := nest_pop' (by assumption) (by decide +kernel)); k_sweep))) | ((with_reducible show wpAny _ _ (call (Value.builtin "list.append") _ _) _ _ _); first | (k_here; k_dflt (refine' row_append ?F ?N ?U ?z ?_; (case F => k_asm); (case N => k_asm); (case U => k_upd); (case z => exact app_z (by with_reducible assumption))); (intro _ _ _; k_sweep))) | ((with_reducible show wpAny _ _ (eval (Expr.Name _ _) _) _ _ _); first | (k_here; k_dflt (refine' ld ?k1 ?k2 ?_; (case k1 => k_asm); (case k2 => assumption); k_whole))) | ((with_reducible show wpAny _ _ (compareOp CmpOp.In (Value.str _ _) (Value.ref _)) _ _ _); first | (k_here; k_dflt (refine' in_words ?N ?ma ?R ?ok ?hx ?hu ?_; (case N => k_asm); (case R => with_reducible assumption); (case ma => k_mem); (case ok => decide +kernel); (case hx => exact RowIs.fw_ok (by assumption)); (case hu => ktr_units)))) | walk1 | (dsimp only; walk1) | (leave1; walk_say "STEP leave1"; try dsimp only) | fail "no step")
  refine Held.mk ?_
  (with_reducible rename Rd _ _ _ _ => Sf)
  (with_reducible rename Fr _ _ _ _ => F1)
  (with_reducible rename News _ _ _ _ => N1)
  k_dflt refine' While_inv2 (LoopJ (fun m => m (S "words") = some (.ref wl) ∧ m (S "inner") = some (.ref 438)) .termR .term fz row ws) F1 N1 ?J ?turn
  case J => exact ⟨_, _, _, _, _, _, rfl, ⟨rfl, rfl⟩, rfl, rfl, rfl, by assumption, by assumption, by assumption, by assumption, by assumption, by assumption, fun d w' r => .term Sf r⟩
  case turn =>
    intro n m₁ news₁ h₁ tk₁ F₁ N₁ hJ
    obtain ⟨vs, us, k, tl, v, d, rfl, ⟨hm3, hm4⟩, hm1, hm2, rfl, Ru, z1, z3, Dv, z7, z8, z9⟩ := hJ
    clear F1 N1
    repeat' (first | (k_unfold; (try dsimp only)) | (k_end; wrow_close) | ((with_reducible show wpAny _ _ (call (Value.ref _) _ _) _ _ _); first | (k_here; k_dflt (refine' Runs.useP (PAll.run ?P ?lt ?hl ?hz ?R) (F := by k_asm) (B := by k_asm) (X := by k_asm) (T := by k_asm) (hk := by first | exact rfl | assumption) (N := ?N) (hd := ?hd) (hu := ?hu) (ret := ?_); (case P => assumption); (case N => first | k_asm | exact News.sw (by k_asm) | exact News.sw (News.t1 (by k_asm)) | exact News.t1 (by k_asm)); (case R => assumption); (case hz => k_all); (case lt => walk_at "n lt"); (case hl => walk_at "n le"); (case hd => exact room_d (by with_reducible assumption) (by exact rfl) (by walk_at "n room")); (case hu => exact room_u _ (by with_reducible assumption) (by exact rfl) (by walk_at "n room")); intro _ _ _ _ _ _ _ _ _ _ _ _ _ _ _ _ _; (try dsimp only); k_sweep)) | (k_here; k_dflt (refine' Runs.useS (next_runs _ _ _ _ _ _ ?hm ?R) (F := by k_asm) (B := by k_asm) (X := by k_asm) (T := by k_asm) (hk := by first | exact rfl | assumption) (N := ?N) (hd := ?hd) (hu := ?hu) (ret := ?_); (case N => k_asm); (case R => assumption); (case hm => k_mem); (case hd => exact room_d (by with_reducible assumption) (by exact rfl) (by walk_at "n room")); (case hu => exact room_u 1 (by with_reducible assumption) (by exact rfl) (by walk_at "n room")); intro _ _ _ _ _; (try dsimp only); k_sweep))) | ((with_reducible show wpAny _ _ (call (Value.builtin "list.pop") _ _) _ _ _); first | (k_here; k_dflt (refine' row_pop ?F ?N ?U ?R ?l ?z ?_; (case F => k_asm); (case N => k_asm); (case U => k_upd); (case R => assumption); (case l => first | exact ne_lit (by assumption) (by decide +kernel) | exact ne_bne (by assumption) | exact ne_any (by assumption) (by decide +kernel)); (case z => walk_at "n le")); (intro _ _ _ _ _ _ _; (try have _ := nest_pop' (by assumption) (by decide +kernel)); k_sweep))) | ((with_reducible show wpAny _ _ (call (Value.builtin "list.append") _ _) _ _ _); first | (k_here; k_dflt (refine' row_append ?F ?N ?U ?z ?_; (case F => k_asm); (case N => k_asm); (case U => k_upd); (case z => exact app_z (by with_reducible assumption))); (intro _ _ _; k_sweep))) | ((with_reducible show wpAny _ _ (eval (Expr.Name _ _) _) _ _ _); first | (k_here; k_dflt (refine' ld ?k1 ?k2 ?_; (case k1 => k_asm); (case k2 => assumption); k_whole))) | ((with_reducible show wpAny _ _ (compareOp CmpOp.In (Value.str _ _) (Value.ref _)) _ _ _); first | (k_here; k_dflt (refine' in_words ?N ?ma ?R ?ok ?hx ?hu ?_; (case N => k_asm); (case R => with_reducible assumption); (case ma => k_mem); (case ok => decide +kernel); (case hx => exact RowIs.fw_ok (by assumption)); (case hu => ktr_units)))) | walk1 | (dsimp only; walk1) | (leave1; walk_say "STEP leave1"; try dsimp only) | fail "no step")
    · exact fin1 (P := fun r _ h' tk' => Q r { s with heap := h', toks := tk' }) hret (by assumption) (by assumption) Ru z1 z3 Dv (z9 _ _ (.termStop' (.inl (datIn_none Dv (by assumption)))))
    · (with_reducible rename Fr _ _ _ _ => Fb)
      (with_reducible rename News _ _ _ _ => Nb)
      rename_i a2 b1 b2 b3 a1 b4 b5 b6 b7 b8 b9 rb b10 b11 tlb kb vsb wsb db Rb Zb Yb Db Sb hLb hMb b12 a0 b13
      exact loop_none Fb Nb Rb ⟨hm3, hm4⟩ hm1 rfl z1 z3 (by walk_at "n lt") z7 (by walk_at "n le") z8 (fun d' w' r => z9 _ _ (.termGo' (datIn_ne Dv a2) a1 Sb (by rw [datIn_none Db a0]; exact r)))
    · (with_reducible rename Fr _ _ _ _ => Fb)
      (with_reducible rename News _ _ _ _ => Nb)
      rename_i a2 b1 b2 b3 a1 b4 b5 b6 b7 b8 b9 rb b10 b11 tlb kb vsb wsb db Rb Zb Yb Db Sb hLb hMb b12 b13 a0 x b14 hx b15
      exact loop_some Fb Nb hx Rb ⟨hm3, hm4⟩ hm1 rfl z1 z3 Zb Yb (e := mk3 (fw us) d db) (by rw [mk3_ne (datIn_ne Db a0)]; exact DatIn.list (vs := [_, _, _]) List.mem_cons_self (.cons (.str _ _) (.cons (DatIn.mono (fun _ h => List.mem_cons_of_mem _ (List.mem_append_right _ h)) Dv) (.cons (DatIn.mono (fun _ h => List.mem_cons_of_mem _ (List.mem_append_left _ h)) Db) .nil)))) (by walk_at "n lt") z7 (by walk_at "n le") z8 (fun d' w' r => z9 _ _ (.termGo' (datIn_ne Dv a2) a1 Sb r))
    · exact fin1 (P := fun r _ h' tk' => Q r { s with heap := h', toks := tk' }) hret (by assumption) (by assumption) Ru z1 z3 Dv (z9 _ _ (.termStop' (.inr (by assumption))))
end
end T_P2
section T_P3
local macro_rules | `(tactic| walk_at "no such key 0") => `(tactic| fail)
section
theorem mul_vals (t1 t2 t3 t4 t5 : Tok) : StrVals [.str (Str.ofString "*") t1, .str (Str.ofString "/") t2, .str (Str.ofString "DIV") t3, .str (Str.ofString "MOD") t4, .str (Str.ofString "&") t5] mulWords := .cons (.cons (.cons (.cons (.cons .nil))))
theorem term_ok (w : World) (ws : List Str) (IHf : PAll w .fac 2 438 (ws.length + 1)) : POk w .term 4 452 ws := by
  intro hl fz row n vs hz R
  unfold Runs
  w_top off
  k_fill
  intro p loose mean mg mb dp un gd cn cs a ccd cl outer A₀ base h₀ L m s Q E B F X N T hk hd hu hret
  refine wpAny_call ?_
  k_dflt ktr_enter
  repeat' (first | (k_unfold; (try dsimp only)) | (k_end; wrow_close) | ((with_reducible show wpAny _ _ (call (Value.ref _) _ _) _ _ _); first | (k_here; k_dflt (refine' Runs.useP (chain_ok _ _ ?P ?hl _ _ _ _ _ _ _ ?hw ?hv ?hz ?R) (F := by k_asm) (B := by k_asm) (X := by k_asm) (T := by k_asm) (hk := by first | exact rfl | assumption) (N := ?N) (hd := ?hd) (hu := ?hu) (ret := ?_); (case P => assumption); (case N => exact News.sw (by k_asm)); (case R => assumption); (case hz => k_all); (case hw => exact List.mem_cons_self); (case hv => exact mul_vals _ _ _ _ _); (case hl => walk_at "n le"); (case hd => exact room_d (by with_reducible assumption) (by exact rfl) (by walk_at "n room")); (case hu => exact room_u _ (by with_reducible assumption) (by exact rfl) (by walk_at "n room")); intro _ _ _ _ _ _ _ _ _ _ _ _ _ _ _ _ _; (try dsimp only); k_sweep)) | (k_here; k_dflt (refine' Runs.useP (PAll.run ?P ?lt ?hl ?hz ?R) (F := by k_asm) (B := by k_asm) (X := by k_asm) (T := by k_asm) (hk := by first | exact rfl | assumption) (N := ?N) (hd := ?hd) (hu := ?hu) (ret := ?_); (case P => assumption); (case N => first | k_asm | exact News.sw (by k_asm) | exact News.sw (News.t1 (by k_asm)) | exact News.t1 (by k_asm)); (case R => assumption); (case hz => k_all); (case lt => walk_at "n lt"); (case hl => walk_at "n le"); (case hd => exact room_d (by with_reducible assumption) (by exact rfl) (by walk_at "n room")); (case hu => exact room_u _ (by with_reducible assumption) (by exact rfl) (by walk_at "n room")); intro _ _ _ _ _ _ _ _ _ _ _ _ _ _ _ _ _; (try dsimp only); k_sweep)) | (k_here; k_dflt (refine' Runs.useS (next_runs _ _ _ _ _ _ ?hm ?R) (F := by k_asm) (B := by k_asm) (X := by k_asm) (T := by k_asm) (hk := by first | exact rfl | assumption) (N := ?N) (hd := ?hd) (hu := ?hu) (ret := ?_); (case N => k_asm); (case R => assumption); (case hm => k_mem); (case hd => exact room_d (by with_reducible assumption) (by exact rfl) (by walk_at "n room")); (case hu => exact room_u 1 (by with_reducible assumption) (by exact rfl) (by walk_at "n room")); intro _ _ _ _ _; (try dsimp only); k_sweep))) | ((with_reducible show wpAny _ _ (call (Value.builtin "list.pop") _ _) _ _ _); first | (k_here; k_dflt (refine' row_pop ?F ?N ?U ?R ?l ?z ?_; (case F => k_asm); (case N => k_asm); (case U => k_upd); (case R => assumption); (case l => first | exact ne_lit (by assumption) (by decide +kernel) | exact ne_bne (by assumption) | exact ne_lit (bne_f (by assumption)) (by decide +kernel) | exact ne_any (by assumption) (by decide +kernel)); (case z => walk_at "n le")); (intro _ _ _ _ _ _ _; (try have _ := nest_pop' (by assumption) (by decide +kernel)); k_sweep))) | ((with_reducible show wpAny _ _ (call (Value.builtin "list.append") _ _) _ _ _); first | (k_here; k_dflt (refine' row_append ?F ?N ?U ?z ?_; (case F => k_asm); (case N => k_asm); (case U => k_upd); (case z => exact app_z (by with_reducible assumption))); (intro _ _ _; k_sweep))) | ((with_reducible show wpAny _ _ (eval (Expr.Name _ _) _) _ _ _); first | (k_here; k_dflt (refine' ld ?k1 ?k2 ?_; (case k1 => k_asm); (case k2 => assumption); k_whole))) | ((with_reducible show wpAny _ _ (compareOp CmpOp.In (Value.str _ _) (Value.ref _)) _ _ _); first | (k_here; k_dflt (refine' in_words ?N ?ma ?R ?ok ?hx ?hu ?_; (case N => k_asm); (case R => with_reducible assumption); (case ma => k_mem); (case ok => decide +kernel); (case hx => exact RowIs.fw_ok (by assumption)); (case hu => ktr_units)))) | walk1 | (dsimp only; walk1) | (leave1; walk_say "STEP leave1"; try dsimp only) | fail "no step")
  · exact fin1' (P := fun r _ h' tk' => Q r { s with heap := h', toks := tk' }) hret (by assumption) (by assumption) (by assumption) (by assumption) (by assumption) (by assumption) (by assumption)
theorem signed_ok (w : World) (ws : List Str) (IHt : PAll w .term 4 452 (ws.length + 1)) : POk w .signed 5 459 ws := by
  intro hl fz row n vs hz R
  unfold Runs
  k_fill
  intro p loose mean mg mb dp un gd cn cs a ccd cl outer A₀ base h₀ L m s Q E B F X N T hk hd hu hret
  refine wpAny_call ?_
  k_dflt ktr_enter
  repeat' (first | (k_unfold; (try dsimp only)) | (k_end; wrow_close) | ((with_reducible show wpAny _ _ (call (Value.ref _) _ _) _ _ _); first | (k_here; k_dflt (refine' Runs.useP (chain_ok _ _ ?P ?hl _ _ _ _ _ _ _ ?hw ?hv ?hz ?R) (F := by k_asm) (B := by k_asm) (X := by k_asm) (T := by k_asm) (hk := by first | exact rfl | assumption) (N := ?N) (hd := ?hd) (hu := ?hu) (ret := ?_); (case P => assumption); (case N => exact News.sw (by k_asm)); (case R => assumption); (case hz => k_all); (case hw => exact List.mem_cons_self); (case hv => exact mul_vals _ _ _ _ _); (case hl => walk_at "n le"); (case hd => exact room_d (by with_reducible assumption) (by exact rfl) (by walk_at "n room")); (case hu => exact room_u _ (by with_reducible assumption) (by exact rfl) (by walk_at "n room")); intro _ _ _ _ _ _ _ _ _ _ _ _ _ _ _ _ _; (try dsimp only); k_sweep)) | (k_here; k_dflt (refine' Runs.useP (PAll.run ?P ?lt ?hl ?hz ?R) (F := by k_asm) (B := by k_asm) (X := by k_asm) (T := by k_asm) (hk := by first | exact rfl | assumption) (N := ?N) (hd := ?hd) (hu := ?hu) (ret := ?_); (case P => assumption); (case N => first | k_asm | exact News.sw (by k_asm) | exact News.sw (News.t1 (by k_asm)) | exact News.t1 (by k_asm)); (case R => assumption); (case hz => k_all); (case lt => walk_at "n lt"); (case hl => walk_at "n le"); (case hd => exact room_d (by with_reducible assumption) (by exact rfl) (by walk_at "n room")); (case hu => exact room_u _ (by with_reducible assumption) (by exact rfl) (by walk_at "n room")); intro _ _ _ _ _ _ _ _ _ _ _ _ _ _ _ _ _; (try dsimp only); k_sweep)) | (k_here; k_dflt (refine' Runs.useS (next_runs _ _ _ _ _ _ ?hm ?R) (F := by k_asm) (B := by k_asm) (X := by k_asm) (T := by k_asm) (hk := by first | exact rfl | assumption) (N := ?N) (hd := ?hd) (hu := ?hu) (ret := ?_); (case N => k_asm); (case R => assumption); (case hm => k_mem); (case hd => exact room_d (by with_reducible assumption) (by exact rfl) (by walk_at "n room")); (case hu => exact room_u 1 (by with_reducible assumption) (by exact rfl) (by walk_at "n room")); intro _ _ _ _ _; (try dsimp only); k_sweep))) | ((with_reducible show wpAny _ _ (call (Value.builtin "list.pop") _ _) _ _ _); first | (k_here; k_dflt (refine' row_pop ?F ?N ?U ?R ?l ?z ?_; (case F => k_asm); (case N => k_asm); (case U => k_upd); (case R => assumption); (case l => first | exact ne_lit (by assumption) (by decide +kernel) | exact ne_bne (by assumption) | exact ne_lit (bne_f (by assumption)) (by decide +kernel) | exact ne_any (by assumption) (by decide +kernel)); (case z => walk_at "n le")); (intro _ _ _ _ _ _ _; (try have _ := nest_pop' (by assumption) (by decide +kernel)); k_sweep))) | ((with_reducible show wpAny _ _ (call (Value.builtin "list.append") _ _) _ _ _); first | (k_here; k_dflt (refine' row_append ?F ?N ?U ?z ?_; (case F => k_asm); (case N => k_asm); (case U => k_upd); (case z => exact app_z (by with_reducible assumption))); (intro _ _ _; k_sweep))) | ((with_reducible show wpAny _ _ (eval (Expr.Name _ _) _) _ _ _); first | (k_here; k_dflt (refine' ld ?k1 ?k2 ?_; (case k1 => k_asm); (case k2 => assumption); k_whole))) | ((with_reducible show wpAny _ _ (compareOp CmpOp.In (Value.str _ _) (Value.ref _)) _ _ _); first | (k_here; k_dflt (refine' in_words ?N ?ma ?R ?ok ?hx ?hu ?_; (case N => k_asm); (case R => with_reducible assumption); (case ma => k_mem); (case ok => decide +kernel); (case hx => exact RowIs.fw_ok (by assumption)); (case hu => ktr_units)))) | walk1 | (dsimp only; walk1) | (leave1; walk_say "STEP leave1"; try dsimp only) | fail "no step")
  · exact fin1 (P := fun r _ h' tk' => Q r { s with heap := h', toks := tk' }) hret (by assumption) (by assumption) (by assumption) (by assumption) (by assumption) (by assumption) (Rd.pos' (bne_t (by assumption)) (by assumption))
  · (with_reducible rename Rd _ _ _ _ => Sx)
    (with_reducible rename DatIn _ _ _ => Dx)
    exact fin1 (P := fun r _ h' tk' => Q r { s with heap := h', toks := tk' }) hret (by assumption) (by assumption) (by assumption) (by assumption) (by assumption) .none (by
      have q := Rd.neg' (bne_f (by assumption)) Sx
      rw [datIn_none Dx (by assumption)] at q; exact q)
  · (with_reducible rename Rd _ _ _ _ => Sx)
    (with_reducible rename DatIn _ _ _ => Dx)
    exact fin2 (P := fun r _ h' tk' => Q r { s with heap := h', toks := tk' }) hret (by assumption) (by assumption) (by assumption) (by assumption) (by assumption) (by assumption) (DatIn.list (vs := [_, _]) List.mem_cons_self (.cons (.str _ _) (.cons (DatIn.mono (fun _ h => List.mem_cons_of_mem _ h) Dx) .nil))) (by
      have q := Rd.neg' (bne_f (by assumption)) Sx
      rw [mk2_ne (datIn_ne Dx (by assumption))] at q; exact q)
theorem rel_ok (w : World) (ws : List Str) (IHs : PAll w .sum 6 466 (ws.length + 1)) : POk w .rel 7 473 ws := by
  intro hl fz row n vs hz R
  unfold Runs
  k_fill
  intro p loose mean mg mb dp un gd cn cs a ccd cl outer A₀ base h₀ L m s Q E B F X N T hk hd hu hret
  refine wpAny_call ?_
  k_dflt ktr_enter
  repeat' (first | (k_unfold; (try dsimp only)) | (k_end; wrow_close) | ((with_reducible show wpAny _ _ (call (Value.ref _) _ _) _ _ _); first | (k_here; k_dflt (refine' Runs.useP (chain_ok _ _ ?P ?hl _ _ _ _ _ _ _ ?hw ?hv ?hz ?R) (F := by k_asm) (B := by k_asm) (X := by k_asm) (T := by k_asm) (hk := by first | exact rfl | assumption) (N := ?N) (hd := ?hd) (hu := ?hu) (ret := ?_); (case P => assumption); (case N => exact News.sw (by k_asm)); (case R => assumption); (case hz => k_all); (case hw => exact List.mem_cons_self); (case hv => exact mul_vals _ _ _ _ _); (case hl => walk_at "n le"); (case hd => exact room_d (by with_reducible assumption) (by exact rfl) (by walk_at "n room")); (case hu => exact room_u _ (by with_reducible assumption) (by exact rfl) (by walk_at "n room")); intro _ _ _ _ _ _ _ _ _ _ _ _ _ _ _ _ _; (try dsimp only); k_sweep)) | (k_here; k_dflt (refine' Runs.useP (PAll.run ?P ?lt ?hl ?hz ?R) (F := by k_asm) (B := by k_asm) (X := by k_asm) (T := by k_asm) (hk := by first | exact rfl | assumption) (N := ?N) (hd := ?hd) (hu := ?hu) (ret := ?_); (case P => assumption); (case N => first | k_asm | exact News.sw (by k_asm) | exact News.sw (News.t1 (by k_asm)) | exact News.t1 (by k_asm)); (case R => assumption); (case hz => k_all); (case lt => walk_at "n lt"); (case hl => walk_at "n le"); (case hd => exact room_d (by with_reducible assumption) (by exact rfl) (by walk_at "n room")); (case hu => exact room_u _ (by with_reducible assumption) (by exact rfl) (by walk_at "n room")); intro _ _ _ _ _ _ _ _ _ _ _ _ _ _ _ _ _; (try dsimp only); k_sweep)) | (k_here; k_dflt (refine' Runs.useS (next_runs _ _ _ _ _ _ ?hm ?R) (F := by k_asm) (B := by k_asm) (X := by k_asm) (T := by k_asm) (hk := by first | exact rfl | assumption) (N := ?N) (hd := ?hd) (hu := ?hu) (ret := ?_); (case N => k_asm); (case R => assumption); (case hm => k_mem); (case hd => exact room_d (by with_reducible assumption) (by exact rfl) (by walk_at "n room")); (case hu => exact room_u 1 (by with_reducible assumption) (by exact rfl) (by walk_at "n room")); intro _ _ _ _ _; (try dsimp only); k_sweep))) | ((with_reducible show wpAny _ _ (call (Value.builtin "list.pop") _ _) _ _ _); first | (k_here; k_dflt (refine' row_pop ?F ?N ?U ?R ?l ?z ?_; (case F => k_asm); (case N => k_asm); (case U => k_upd); (case R => assumption); (case l => first | exact ne_lit (by assumption) (by decide +kernel) | exact ne_bne (by assumption) | exact ne_lit (bne_f (by assumption)) (by decide +kernel) | exact ne_any (by assumption) (by decide +kernel)); (case z => walk_at "n le")); (intro _ _ _ _ _ _ _; (try have _ := nest_pop' (by assumption) (by decide +kernel)); k_sweep))) | ((with_reducible show wpAny _ _ (call (Value.builtin "list.append") _ _) _ _ _); first | (k_here; k_dflt (refine' row_append ?F ?N ?U ?z ?_; (case F => k_asm); (case N => k_asm); (case U => k_upd); (case z => exact app_z (by with_reducible assumption))); (intro _ _ _; k_sweep))) | ((with_reducible show wpAny _ _ (eval (Expr.Name _ _) _) _ _ _); first | (k_here; k_dflt (refine' ld ?k1 ?k2 ?_; (case k1 => k_asm); (case k2 => assumption); k_whole))) | ((with_reducible show wpAny _ _ (compareOp CmpOp.In (Value.str _ _) (Value.ref _)) _ _ _); first | (k_here; k_dflt (refine' in_words ?N ?ma ?R ?ok ?hx ?hu ?_; (case N => k_asm); (case R => with_reducible assumption); (case ma => k_mem); (case ok => decide +kernel); (case hx => exact RowIs.fw_ok (by assumption)); (case hu => ktr_units)))) | walk1 | (dsimp only; walk1) | (leave1; walk_say "STEP leave1"; try dsimp only) | fail "no step")
  · exact fin1 (P := fun r _ h' tk' => Q r { s with heap := h', toks := tk' }) hret (by assumption) (by assumption) (by assumption) (by assumption) (by assumption) (by assumption) (Rd.relStop' (by assumption) (.inl (datIn_none (by assumption) (by assumption))))
  · rename_i ra b1 b2 tla ka vsa wsa da Ra Za Ya Da Sa hLa hMa b3 b4 a2 b5 b6 b7 l b8 l1 a1 b9 b10 b11 b12 b13 b14 b15 rb b16 b17 tlb kb vsb wsb db Rb Zb Yb Db Sb hLb hMb b18 a0 b19 b20 b21 kF kN b22 b23
    exact fin0 (P := fun r _ h' tk' => Q r { s with heap := h', toks := tk' }) hret kF (News.back2 kN) Rb .none (by
      have q := Rd.relGo' Sa (datIn_ne Da a2) a1 Sb
      rw [datIn_none Db a0] at q; exact q)
  · rename_i ra b1 b2 tla ka vsa wsa da Ra Za Ya Da Sa hLa hMa b3 b4 a2 b5 b6 b7 l b8 l1 a1 b9 b10 b11 b12 b13 b14 b15 rb b16 b17 tlb kb vsb wsb db Rb Zb Yb Db Sb hLb hMb b18 b19 a0 x b20 hx b21 b22 b23 kF kN b24 b25
    exact fin3 (P := fun r _ h' tk' => Q r { s with heap := h', toks := tk' }) hret kF kN Rb hx Za Zb Ya Yb (DatIn.list (vs := [_, _, _]) List.mem_cons_self (.cons (.str _ _) (.cons (DatIn.mono (fun _ h => List.mem_cons_of_mem _ (List.mem_append_right _ h)) Da) (.cons (DatIn.mono (fun _ h => List.mem_cons_of_mem _ (List.mem_append_left _ h)) Db) .nil)))) (by
      have q := Rd.relGo' Sa (datIn_ne Da a2) a1 Sb
      rw [mk3_ne (datIn_ne Db a0)] at q; exact q)
  · exact fin1 (P := fun r _ h' tk' => Q r { s with heap := h', toks := tk' }) hret (by assumption) (News.t1 (by assumption)) (by assumption) (by assumption) (by assumption) (by assumption) (Rd.relStop' (by assumption) (.inr (by assumption)))
theorem sum_ok (w : World) (ws : List Str) (IHt : PAll w .term 4 452 (ws.length + 1)) (IHs : PAll w .signed 5 459 (ws.length + 1)) : POk w .sum 6 466 ws := by
  intro hl fz row n vs hz R
  unfold Runs
  k_fill
  intro p loose mean mg mb dp un gd cn cs a ccd cl outer A₀ base h₀ L m s Q E B F X N T hk hd hu hret
  refine wpAny_call ?_
  k_dflt ktr_enter
  repeat' (first | (k_unfold; (try dsimp only)) | (k_end; wrow_close) | ((with_reducible show wpAny _ _ (call (Value.ref _) _ _) _ _ _); first | (k_here; k_dflt (refine' Runs.useP (chain_ok _ _ ?P ?hl _ _ _ _ _ _ _ ?hw ?hv ?hz ?R) (F := by k_asm) (B := by k_asm) (X := by k_asm) (T := by k_asm) (hk := by first | exact rfl | assumption) (N := ?N) (hd := ?hd) (hu := ?hu) (ret := ?_); (case P => assumption); (case N => exact News.sw (by k_asm)); (case R => assumption); (case hz => k_all); (case hw => exact List.mem_cons_self); (case hv => exact mul_vals _ _ _ _ _); (case hl => walk_at "n le"); (case hd => exact room_d (by with_reducible assumption) (by exact rfl) (by walk_at "n room")); (case hu => exact room_u _ (by with_reducible assumption) (by exact rfl) (by walk_at "n room")); intro _ _ _ _ _ _ _ _ _ _ _ _ _ _ _ _ _; (try dsimp only); k_sweep)) | (k_here; k_dflt (refine' Runs.useP (PAll.run ?P ?lt ?hl ?hz ?R) (F := by k_asm) (B := by k_asm) (X := by k_asm) (T := by k_asm) (hk := by first | exact rfl | assumption) (N := ?N) (hd := ?hd) (hu := ?hu) (ret := ?_); (case P => assumption); (case N => first | k_asm | exact News.sw (by k_asm) | exact News.sw (News.t1 (by k_asm)) | exact News.t1 (by k_asm)); (case R => assumption); (case hz => k_all); (case lt => walk_at "n lt"); (case hl => walk_at "n le"); (case hd => exact room_d (by with_reducible assumption) (by exact rfl) (by walk_at "n room")); (case hu => exact room_u _ (by with_reducible assumption) (by exact rfl) (by walk_at "n room")); intro _ _ _ _ _ _ _ _ _ _ _ _ _ _ _ _ _; (try dsimp only); k_sweep)) | (k_here; k_dflt (refine' Runs.useS (next_runs _ _ _ _ _ _ ?hm ?R) (F := by k_asm) (B := by k_asm) (X := by k_asm) (T := by k_asm) (hk := by first | exact rfl | assumption) (N := ?N) (hd := ?hd) (hu := ?hu) (ret := ?_); (case N => k_asm); (case R => assumption); (case hm => k_mem); (case hd => exact room_d (by with_reducible assumption) (by exact rfl) (by walk_at "n room")); (case hu => exact room_u 1 (by with_reducible assumption) (by exact rfl) (by walk_at "n room")); intro _ _ _ _ _; (try dsimp only); k_sweep))) | ((with_reducible show wpAny _ _ (call (Value.builtin "list.pop") _ _) _ _ _); first | (k_here; k_dflt (refine' row_pop ?F ?N ?U ?R ?l ?z ?_; (case F => k_asm); (case N => k_asm); (case U => k_upd); (case R => assumption); (case l => first | exact ne_lit (by assumption) (by decide +kernel) | exact ne_bne (by assumption) | exact ne_lit (bne_f (by assumption)) (by decide +kernel) | exact ne_any (by assumption) (by decide +kernel)); (case z => walk_at "n le")); (intro _ _ _ _ _ _ _; (try have _ := nest_pop' (by assumption) (by decide +kernel)); k_sweep))) | ((with_reducible show wpAny _ _ (call (Value.builtin "list.append") _ _) _ _ _); first | (k_here; k_dflt (refine' row_append ?F ?N ?U ?z ?_; (case F => k_asm); (case N => k_asm); (case U => k_upd); (case z => exact app_z (by with_reducible assumption))); (intro _ _ _; k_sweep))) | ((with_reducible show wpAny _ _ (eval (Expr.Name _ _) _) _ _ _); first | (k_here; k_dflt (refine' ld ?k1 ?k2 ?_; (case k1 => k_asm); (case k2 => assumption); k_whole))) | ((with_reducible show wpAny _ _ (compareOp CmpOp.In (Value.str _ _) (Value.ref _)) _ _ _); first | (k_here; k_dflt (refine' in_words ?N ?ma ?R ?ok ?hx ?hu ?_; (case N => k_asm); (case R => with_reducible assumption); (case ma => k_mem); (case ok => decide +kernel); (case hx => exact RowIs.fw_ok (by assumption)); (case hu => ktr_units)))) | walk1 | (dsimp only; walk1) | (leave1; walk_say "STEP leave1"; try dsimp only) | fail "no step")
  refine Held.mk ?_
  (with_reducible rename Rd _ _ _ _ => Sf)
  (with_reducible rename Fr _ _ _ _ => F1)
  (with_reducible rename News _ _ _ _ => N1)
  k_dflt refine' While_inv2 (LoopJ (fun _ => True) .sumR .sum fz row ws) F1 N1 ?J ?turn
  case J => exact ⟨_, _, _, _, _, _, rfl, trivial, rfl, rfl, rfl, by assumption, by assumption, by assumption, by assumption, by assumption, by assumption, fun d w' r => .sum Sf r⟩
  case turn =>
    intro n m₁ news₁ h₁ tk₁ F₁ N₁ hJ
    obtain ⟨vs, us, k, tl, v, d, rfl, _, hm1, hm2, rfl, Ru, z1, z3, Dv, z7, z8, z9⟩ := hJ
    clear F1 N1
    repeat' (first | (k_unfold; (try dsimp only)) | (k_end; wrow_close) | ((with_reducible show wpAny _ _ (call (Value.ref _) _ _) _ _ _); first | (k_here; k_dflt (refine' Runs.useP (chain_ok _ _ ?P ?hl _ _ _ _ _ _ _ ?hw ?hv ?hz ?R) (F := by k_asm) (B := by k_asm) (X := by k_asm) (T := by k_asm) (hk := by first | exact rfl | assumption) (N := ?N) (hd := ?hd) (hu := ?hu) (ret := ?_); (case P => assumption); (case N => exact News.sw (by k_asm)); (case R => assumption); (case hz => k_all); (case hw => exact List.mem_cons_self); (case hv => exact mul_vals _ _ _ _ _); (case hl => walk_at "n le"); (case hd => exact room_d (by with_reducible assumption) (by exact rfl) (by walk_at "n room")); (case hu => exact room_u _ (by with_reducible assumption) (by exact rfl) (by walk_at "n room")); intro _ _ _ _ _ _ _ _ _ _ _ _ _ _ _ _ _; (try dsimp only); k_sweep)) | (k_here; k_dflt (refine' Runs.useP (PAll.run ?P ?lt ?hl ?hz ?R) (F := by k_asm) (B := by k_asm) (X := by k_asm) (T := by k_asm) (hk := by first | exact rfl | assumption) (N := ?N) (hd := ?hd) (hu := ?hu) (ret := ?_); (case P => assumption); (case N => first | k_asm | exact News.sw (by k_asm) | exact News.sw (News.t1 (by k_asm)) | exact News.t1 (by k_asm)); (case R => assumption); (case hz => k_all); (case lt => walk_at "n lt"); (case hl => walk_at "n le"); (case hd => exact room_d (by with_reducible assumption) (by exact rfl) (by walk_at "n room")); (case hu => exact room_u _ (by with_reducible assumption) (by exact rfl) (by walk_at "n room")); intro _ _ _ _ _ _ _ _ _ _ _ _ _ _ _ _ _; (try dsimp only); k_sweep)) | (k_here; k_dflt (refine' Runs.useS (next_runs _ _ _ _ _ _ ?hm ?R) (F := by k_asm) (B := by k_asm) (X := by k_asm) (T := by k_asm) (hk := by first | exact rfl | assumption) (N := ?N) (hd := ?hd) (hu := ?hu) (ret := ?_); (case N => k_asm); (case R => assumption); (case hm => k_mem); (case hd => exact room_d (by with_reducible assumption) (by exact rfl) (by walk_at "n room")); (case hu => exact room_u 1 (by with_reducible assumption) (by exact rfl) (by walk_at "n room")); intro _ _ _ _ _; (try dsimp only); k_sweep))) | ((with_reducible show wpAny _ _ (call (Value.builtin "list.pop") _ _) _ _ _); first | (k_here; k_dflt (refine' row_pop ?F ?N ?U ?R ?l ?z ?_; (case F => k_asm); (case N => k_asm); (case U => k_upd); (case R => assumption); (case l => first | exact ne_lit (by assumption) (by decide +kernel) | exact ne_bne (by assumption) | exact ne_lit (bne_f (by assumption)) (by decide +kernel) | exact ne_any (by assumption) (by decide +kernel)); (case z => walk_at "n le")); (intro _ _ _ _ _ _ _; (try have _ := nest_pop' (by assumption) (by decide +kernel)); k_sweep))) | ((with_reducible show wpAny _ _ (call (Value.builtin "list.append") _ _) _ _ _); first | (k_here; k_dflt (refine' row_append ?F ?N ?U ?z ?_; (case F => k_asm); (case N => k_asm); (case U => k_upd); (case z => exact app_z (by with_reducible assumption))); (intro _ _ _; k_sweep))) | ((with_reducible show wpAny _ _ (eval (Expr.Name _ _) _) _ _ _); first | (k_here; k_dflt (refine' ld ?k1 ?k2 ?_; (case k1 => k_asm); (case k2 => assumption); k_whole))) | ((with_reducible show wpAny _ _ (compareOp CmpOp.In (Value.str _ _) (Value.ref _)) _ _ _); first | (k_here; k_dflt (refine' in_words ?N ?ma ?R ?ok ?hx ?hu ?_; (case N => k_asm); (case R => with_reducible assumption); (case ma => k_mem); (case ok => decide +kernel); (case hx => exact RowIs.fw_ok (by assumption)); (case hu => ktr_units)))) | walk1 | (dsimp only; walk1) | (leave1; walk_say "STEP leave1"; try dsimp only) | fail "no step")
    · exact fin1 (P := fun r _ h' tk' => Q r { s with heap := h', toks := tk' }) hret (by assumption) (by assumption) Ru z1 z3 Dv (z9 _ _ (.sumStop' (.inl (datIn_none Dv (by assumption)))))
    · rename_i a2 b1 b2 b3 b4 b5 l1 a1 b6 b7 b8 b9 b10 b11 b12 rb b13 b14 tlb kb vsb wsb db Rb Zb Yb Db Sb hLb hMb b15 a0 b16 Fb Nb
      exact loop_none Fb (News.mid1 Nb) Rb trivial hm1 rfl z1 z3 (by walk_at "n lt") z7 (by walk_at "n le") z8 (fun d' w' r => z9 _ _ (.sumGo' (datIn_ne Dv a2) a1 Sb (by rw [datIn_none Db a0]; exact r)))
    · rename_i a2 b1 b2 b3 b4 b5 l1 a1 b6 b7 b8 b9 b10 b11 b12 rb b13 b14 tlb kb vsb wsb db Rb Zb Yb Db Sb hLb hMb b15 b16 a0 x b17 hx b18 Fb Nb
      exact loop_some Fb (News.mid2 Nb) (allLt_mid hx) Rb trivial hm1 rfl z1 z3 Zb (fun q hq => Yb q (.tail _ hq)) (e := mk3 (fw us) d db) (by rw [mk3_ne (datIn_ne Db a0)]; exact DatIn.list (vs := [_, _, _]) List.mem_cons_self (.cons (.str _ _) (.cons (DatIn.mono (fun _ h => List.mem_cons_of_mem _ (List.mem_append_right _ h)) Dv) (.cons (DatIn.mono (fun _ h => List.mem_cons_of_mem _ (List.mem_append_left _ h)) Db) .nil)))) (by walk_at "n lt") z7 (by walk_at "n le") z8 (fun d' w' r => z9 _ _ (.sumGo' (datIn_ne Dv a2) a1 Sb r))
    · exact fin1 (P := fun r _ h' tk' => Q r { s with heap := h', toks := tk' }) hret (by assumption) (News.t1 (by assumption)) Ru z1 z3 Dv (z9 _ _ (.sumStop' (.inr (by assumption))))
end
end T_P3
structure AllOk (w : World) (ws : List Str) : Prop where
  fac : POk w .fac 2 438 ws
  term : POk w .term 4 452 ws
  signed : POk w .signed 5 459 ws
  sum : POk w .sum 6 466 ws
  rel : POk w .rel 7 473 ws
theorem all_ok (w : World) : ∀ ws, AllOk w ws := by
  have key : ∀ n, ∀ us : List Str, us.length < n → AllOk w us := by
    intro n
    induction n with
    | zero => intro us h; exact absurd h (Nat.not_lt_zero _)
    | succ n ih =>
      have f : PAll w .fac 2 438 (n + 1) := fun us h => fac_ok w us (fun vs q => (ih vs (by lia)).rel) (fun vs q => (ih vs (by lia)).fac)
      have t : PAll w .term 4 452 (n + 1) := fun us h => term_ok w us (fun vs q => f vs (by lia))
      have g : PAll w .signed 5 459 (n + 1) := fun us h => signed_ok w us (fun vs q => t vs (by lia))
      have s : PAll w .sum 6 466 (n + 1) := fun us h => sum_ok w us (fun vs q => t vs (by lia)) (fun vs q => g vs (by lia))
      exact fun us h => ⟨f us h, t us h, g us h, s us h, rel_ok w us (fun vs q => s vs (by lia))⟩
  exact fun ws => key _ ws (Nat.lt_succ_self _)
theorem read_fresh {x : Addr} {l : Led} (h : ∀ p ∈ l, p.1 < x) : ∀ p ∈ l, p.1 ≠ x := fun p hp => Nat.ne_of_lt (h p hp)
/-- what the whole reader hands back: the tree if no word is left, else nothing -/
noncomputable def Whole (ws : List Str) (d : Dat) : Prop := ∃ e us, Rd .rel ws e us ∧ d = if us.isEmpty then e else .none
section T_P4
local macro_rules | `(tactic| walk_at "no such key 0") => `(tactic| fail)
section
local macro_rules | `(tactic| walk_at "call type:list") => `(tactic| (k_here; k_dflt (refine' row_copy ?F ?N ?m ?R ?z ?_; (case F => k_asm); (case N => k_asm); (case R => assumption); (case m => k_mem); (case z => lia)); (intro D' c' h' F' N' l1'; k_sweep)))
inductive RPost (news : Led) (ws : List Str) (r : Value) (news' : Led) : Prop
  | mk (tl : Led) (d : Dat) : news' = tl ++ news → DatIn tl r d → Whole ws d → RPost news ws r news'
theorem read_ok (w : World) (ws : List Str) (hl : ws.length ≤ 4096) (news : Led) (wl : Addr) (n : Nat) (vs : List Value) (hm : (wl, W.listOf vs.toArray n) ∈ news) (R : RowIs vs ws) :
    Runs w (8 + 6 * nest ws) news 480 [.ref wl] (RPost news ws) := by
  unfold Runs
  w_top off
  k_fill
  intro p loose mean mg mb dp un gd cn cs a ccd cl outer A₀ base h₀ L m s Q E B F X N T hk hd hu hret
  refine wpAny_call ?_
  k_dflt ktr_enter
  repeat' (first | (k_unfold; (try dsimp only)) | (k_end; wrow_close) | ((with_reducible show wpAny _ _ (call (Value.ref _) _ _) _ _ _); first | (k_here; k_dflt (refine' Runs.useP ((all_ok _ _).rel ?hl _ _ _ _ ?hz ?R) ?F ?B ?X ?T ?hk ?N ?hd ?hu ?_; (case F => k_asm); (case N => k_asm); (case R => assumption); (case hz => exact read_fresh (by assumption)); (case hl => lia); (case B => k_asm); (case X => k_asm); (case T => k_asm); (case hk => first | exact rfl | assumption); (case hd => first | (show _ + _ < _; lia) | ktr_room); (case hu => ktr_units); intro _ _ _ _ _ _ _ _ _ _ _ _ _ _ _ _ _; (try dsimp only); k_sweep)) | (k_here; k_dflt (refine' Runs.useP (PAll.run ?P ?lt ?hl ?hz ?R) (F := by k_asm) (B := by k_asm) (X := by k_asm) (T := by k_asm) (hk := by first | exact rfl | assumption) (N := ?N) (hd := ?hd) (hu := ?hu) (ret := ?_); (case P => assumption); (case N => first | k_asm | exact News.sw (by k_asm) | exact News.sw (News.t1 (by k_asm)) | exact News.t1 (by k_asm)); (case R => assumption); (case hz => k_all); (case lt => walk_at "n lt"); (case hl => walk_at "n le"); (case hd => exact room_d (by with_reducible assumption) (by exact rfl) (by walk_at "n room")); (case hu => exact room_u _ (by with_reducible assumption) (by exact rfl) (by walk_at "n room")); intro _ _ _ _ _ _ _ _ _ _ _ _ _ _ _ _ _; (try dsimp only); k_sweep)) | (k_here; k_dflt (refine' Runs.useS (next_runs _ _ _ _ _ _ ?hm ?R) (F := by k_asm) (B := by k_asm) (X := by k_asm) (T := by k_asm) (hk := by first | exact rfl | assumption) (N := ?N) (hd := ?hd) (hu := ?hu) (ret := ?_); (case N => k_asm); (case R => assumption); (case hm => k_mem); (case hd => exact room_d (by with_reducible assumption) (by exact rfl) (by walk_at "n room")); (case hu => exact room_u 1 (by with_reducible assumption) (by exact rfl) (by walk_at "n room")); intro _ _ _ _ _; (try dsimp only); k_sweep))) | ((with_reducible show wpAny _ _ (call (Value.builtin "list.pop") _ _) _ _ _); first | (k_here; k_dflt (refine' row_pop ?F ?N ?U ?R ?l ?z ?_; (case F => k_asm); (case N => k_asm); (case U => k_upd); (case R => assumption); (case l => first | exact ne_lit (by assumption) (by decide +kernel) | exact ne_bne (by assumption) | exact ne_lit (bne_f (by assumption)) (by decide +kernel) | exact ne_any (by assumption) (by decide +kernel)); (case z => walk_at "n le")); (intro _ _ _ _ _ _ _; (try have _ := nest_pop' (by assumption) (by decide +kernel)); k_sweep))) | ((with_reducible show wpAny _ _ (call (Value.builtin "list.append") _ _) _ _ _); first | (k_here; k_dflt (refine' row_append ?F ?N ?U ?z ?_; (case F => k_asm); (case N => k_asm); (case U => k_upd); (case z => exact app_z (by with_reducible assumption))); (intro _ _ _; k_sweep))) | ((with_reducible show wpAny _ _ (eval (Expr.Name _ _) _) _ _ _); first | (k_here; k_dflt (refine' ld ?k1 ?k2 ?_; (case k1 => k_asm); (case k2 => assumption); k_whole))) | ((with_reducible show wpAny _ _ (compareOp CmpOp.In (Value.str _ _) (Value.ref _)) _ _ _); first | (k_here; k_dflt (refine' in_words ?N ?ma ?R ?ok ?hx ?hu ?_; (case N => k_asm); (case R => with_reducible assumption); (case ma => k_mem); (case ok => decide +kernel); (case hx => exact RowIs.fw_ok (by assumption)); (case hu => ktr_units)))) | ((with_reducible show wpAny _ _ (compareOp CmpOp.Eq (Value.ref _) (Value.ref _)) _ _ _); first | (k_here; k_dflt (refine' row_eq_nil ?N ?ma ?R ?mb ?hu ?_; (case N => k_asm); (case R => assumption); (case ma => k_mem); (case mb => k_mem); (case hu => ktr_units)))) | walk1 | (dsimp only; walk1) | (leave1; walk_say "STEP leave1"; try dsimp only) | fail "no step")
  · rename_i b1 D b2 b3 b4 b5 b6 r b7 b8 tl k9 v9 us d Ru Z Y Dr Sr q1 q2 b9 l b11 b12 b13 b14 e kF kN b15 b16
    exact hret _ _ _ _ ⟨_ :: _ :: tl, d, rfl, DatIn.mono (fun _ h => List.mem_cons_of_mem _ (List.mem_cons_of_mem _ h)) Dr, d, us, Sr, by rw [if_pos e]⟩ kF kN
  · rename_i b1 D b2 b3 b4 b5 b6 r b7 b8 tl k9 v9 us d Ru Z Y Dr Sr q1 q2 b9 l b11 b12 b13 b14 e kF kN b15 b16
    exact hret _ _ _ _ ⟨_ :: _ :: tl, .none, rfl, .none, d, us, Sr, by rw [if_neg (by rw [e]; decide)]⟩ kF kN
end
end T_P4
end G_P1
section G_N0
section T_N0
/-- a Node of the tree, borne by the ledger -/
inductive NodeO (L : Led) (v : Value) (op : Str) (ty : Value) (ks : List Value) (val : Value) : Prop
  | mk (x : Addr) (dx : Addr) (l : Addr) (es : List DictEntry) (n : Nat) (kn : Nat) (to : Tok) : v = .ref x → (x, instObj 389 dx) ∈ L → (dx, dictOf es n) ∈ L → (l, W.listOf (List.toArray ks) kn) ∈ L → getL (S "op") es = some (some (.str op to)) → getL (S "type") es = some (some ty) → getL (S "kids") es = some (some (.ref l)) → getL (S "value") es = some (some val) → handedIn ty = true → handedIn val = true → NodeO L v op ty ks val
inductive ObjO (L : Led) (v : Value) (name : Str) : Prop
  | mk (x : Addr) (dx : Addr) (es : List DictEntry) (n : Nat) (t1 : Tok) (t2 : Tok) : v = .ref x → (x, instObj 331 dx) ∈ L → (dx, dictOf es n) ∈ L → getL (S "name") es = some (some (.str name t1)) → getL (S "module") es = some (some (.str (S "") t2)) → ObjO L v name
inductive TypeO (L : Led) (v : Value) (form : Str) : Prop
  | mk (x : Addr) (dx : Addr) (es : List DictEntry) (n : Nat) (t1 : Tok) : v = .ref x → (x, instObj 310 dx) ∈ L → (dx, dictOf es n) ∈ L → getL (S "form") es = some (some (.str form t1)) → TypeO L v form
abbrev PR : Program := PySem.Challenge.rw_pb0356_01.row.prog
inductive NamesO (w : World) (L : Led) (v : Value) : Prop
  | mk (x : Addr) (dx : Addr) (es : List DictEntry) (n : Nat) (t1 : Tok) (sc : Addr) (d0 : Addr) (n0 : Nat) (o0 : Obj) : v = .ref x → (x, instObj 111 dx) ∈ L → (dx, dictOf es n) ∈ L → getL (S "module") es = some (some (.str (S "M") t1)) → getL (S "scopes") es = some (some (.ref sc)) → (sc, W.listOf #[.ref d0] n0) ∈ L → (d0, o0) ∈ L → (d0 == sysModules) = false → Obj.IsDictOf (strKind PR w) o0 [] → getL (S "object_name") es = some none → getL (S "is_taken") es = some none → NamesO w L v
theorem NodeO.mono {L L' : Led} {v : Value} {op : Str} {ty : Value} {ks : List Value} {val : Value} (h : NodeO L v op ty ks val) (s : ∀ p ∈ L, p ∈ L') : NodeO L' v op ty ks val := by
  obtain ⟨x, dx, l, es, n, kn, to, e, m1, m2, m3, a1, a2, a3, a4, a5, a6⟩ := h
  exact ⟨x, dx, l, es, n, kn, to, e, s _ m1, s _ m2, s _ m3, a1, a2, a3, a4, a5, a6⟩
theorem ObjO.mono {L L' : Led} {v : Value} {a : Str} (h : ObjO L v a) (s : ∀ p ∈ L, p ∈ L') : ObjO L' v a := by
  obtain ⟨x, dx, es, n, t1, t2, e, m1, m2, a1, a2⟩ := h
  exact ⟨x, dx, es, n, t1, t2, e, s _ m1, s _ m2, a1, a2⟩
theorem TypeO.mono {L L' : Led} {v : Value} {a : Str} (h : TypeO L v a) (s : ∀ p ∈ L, p ∈ L') : TypeO L' v a := by
  obtain ⟨x, dx, es, n, t1, e, m1, m2, r⟩ := h
  exact ⟨x, dx, es, n, t1, e, s _ m1, s _ m2, r⟩
theorem NamesO.mono {w : World} {L L' : Led} {v : Value} (h : NamesO w L v) (s : ∀ p ∈ L, p ∈ L') : NamesO w L' v := by
  obtain ⟨x, dx, es, n, t1, sc, d0, n0, o0, e, m1, m2, a, b, m3, m4, a1, a2, a3, a4⟩ := h
  exact ⟨x, dx, es, n, t1, sc, d0, n0, o0, e, s _ m1, s _ m2, a, b, s _ m3, s _ m4, a1, a2, a3, a4⟩
/-- the program's names of binary operators, and the words they print as -/
noncomputable def binTab : List (Str × Str) := [(S "+", S "+"), (S "-", S "-"), (S "*", S "*"), (S "DIV", S "DIV"), (S "MOD", S "MOD"), (S "s+", S "+"), (S "s-", S "-"), (S "s*", S "*"), (S "s/", S "/"), (S "=", S "="), (S "#", S "#"), (S "<", S "<"), (S "<=", S "<="), (S ">", S ">"), (S ">=", S ">="), (S "s<=", S "<="), (S "s>=", S ">="), (S "IN", S "IN"), (S "&", S "&"), (S "OR", S "OR")]
noncomputable def intText (i : Int) : Str := Str.ofString (toString i)
noncomputable def boolText (b : Int) : Str := if b = 1 then S "TRUE" else S "FALSE"
noncomputable def Nd (L : Led) : Value → Tm → Prop
  | v, .leaf x => (∃ ty ob, NodeO L v (S "var") ty [] ob ∧ ObjO L ob x ∧ cls x = .word) ∨ (∃ ty i t, NodeO L v (S "const") ty [] (.int i t) ∧ TypeO L ty (S "integer") ∧ 0 ≤ i ∧ i < 12 ∧ x = intText i) ∨
      (∃ ty i t, NodeO L v (S "const") ty [] (.int i t) ∧ TypeO L ty (S "boolean") ∧ 0 ≤ i ∧ i < 2 ∧ x = boolText i)
  | v, .neg a => ∃ ty k op, NodeO L v op ty [k] .none ∧ (op = S "neg" ∨ op = S "s~") ∧ Nd L k a
  | v, .nt a => ∃ ty k, NodeO L v (S "not") ty [k] .none ∧ Nd L k a
  | v, .bin o a b => ∃ ty k1 k2 op, NodeO L v op ty [k1, k2] .none ∧ (op, o) ∈ binTab ∧ Nd L k1 a ∧ Nd L k2 b
  | v, .set0 => ∃ ty, NodeO L v (S "set") ty [] .none
  | v, .set1 p => ∃ ty k, NodeO L v (S "set") ty [k] .none ∧ Nd L k p
  | v, .set2 p q => ∃ ty k1 k2, NodeO L v (S "set") ty [k1, k2] .none ∧ Nd L k1 p ∧ Nd L k2 q
  | v, .one a => ∃ ty k, NodeO L v (S "single") ty [k] .none ∧ Nd L k a
  | v, .rng a b => ∃ ty k1 k2, NodeO L v (S "range") ty [k1, k2] .none ∧ Nd L k1 a ∧ Nd L k2 b
theorem Nd.var {L : Led} {v ty ob : Value} {x : Str} (h : NodeO L v (S "var") ty [] ob) (a : ObjO L ob x) (b : cls x = .word) : Nd L v (.leaf x) := .inl ⟨_, _, h, a, b⟩
theorem Nd.ci {L : Led} {v ty : Value} {i : Int} {t : Tok} (h : NodeO L v (S "const") ty [] (.int i t)) (a : TypeO L ty (S "integer")) (b : 0 ≤ i) (c : i < 12) : Nd L v (.leaf (intText i)) := .inr (.inl ⟨_, _, _, h, a, b, c, rfl⟩)
theorem Nd.cb {L : Led} {v ty : Value} {i : Int} {t : Tok} (h : NodeO L v (S "const") ty [] (.int i t)) (a : TypeO L ty (S "boolean")) (b : 0 ≤ i) (c : i < 2) : Nd L v (.leaf (boolText i)) := .inr (.inr ⟨_, _, _, h, a, b, c, rfl⟩)
theorem Nd.neg {L : Led} {v ty k : Value} {op : Str} {a : Tm} (h : NodeO L v op ty [k] .none) (c : op = S "neg" ∨ op = S "s~") (n : Nd L k a) : Nd L v (.neg a) := ⟨_, _, _, h, c, n⟩
theorem Nd.nt {L : Led} {v ty k : Value} {a : Tm} (h : NodeO L v (S "not") ty [k] .none) (n : Nd L k a) : Nd L v (.nt a) := ⟨_, _, h, n⟩
theorem Nd.bin {L : Led} {v ty k1 k2 : Value} {op o : Str} {a b : Tm} (h : NodeO L v op ty [k1, k2] .none) (c : (op, o) ∈ binTab) (n : Nd L k1 a) (m : Nd L k2 b) : Nd L v (.bin o a b) := ⟨_, _, _, _, h, c, n, m⟩
theorem Nd.set0 {L : Led} {v ty : Value} (h : NodeO L v (S "set") ty [] .none) : Nd L v .set0 := ⟨_, h⟩
theorem Nd.set1 {L : Led} {v ty k : Value} {p : Tm} (h : NodeO L v (S "set") ty [k] .none) (n : Nd L k p) : Nd L v (.set1 p) := ⟨_, _, h, n⟩
theorem Nd.set2 {L : Led} {v ty k1 k2 : Value} {p q : Tm} (h : NodeO L v (S "set") ty [k1, k2] .none) (n : Nd L k1 p) (m : Nd L k2 q) : Nd L v (.set2 p q) := ⟨_, _, _, h, n, m⟩
theorem Nd.one {L : Led} {v ty k : Value} {a : Tm} (h : NodeO L v (S "single") ty [k] .none) (n : Nd L k a) : Nd L v (.one a) := ⟨_, _, h, n⟩
theorem Nd.rng {L : Led} {v ty k1 k2 : Value} {a b : Tm} (h : NodeO L v (S "range") ty [k1, k2] .none) (n : Nd L k1 a) (m : Nd L k2 b) : Nd L v (.rng a b) := ⟨_, _, _, h, n, m⟩
theorem Nd.mono {L L' : Led} (s : ∀ p ∈ L, p ∈ L') {v : Value} {T : Tm} (h : Nd L v T) : Nd L' v T := by
  induction T generalizing v with
  | leaf x =>
    obtain ⟨_, _, h, a, b⟩ | ⟨_, _, _, h, a, b, c, rfl⟩ | ⟨_, _, _, h, a, b, c, rfl⟩ := h
    · exact .var (h.mono s) (a.mono s) b
    · exact .ci (h.mono s) (a.mono s) b c
    · exact .cb (h.mono s) (a.mono s) b c
  | neg a i => obtain ⟨_, _, _, h, c, n⟩ := h; exact .neg (h.mono s) c (i n)
  | nt a i => obtain ⟨_, _, h, n⟩ := h; exact .nt (h.mono s) (i n)
  | bin o a b i j => obtain ⟨_, _, _, _, h, c, n, m⟩ := h; exact .bin (h.mono s) c (i n) (j m)
  | set0 => obtain ⟨_, h⟩ := h; exact .set0 (h.mono s)
  | set1 p i => obtain ⟨_, _, h, n⟩ := h; exact .set1 (h.mono s) (i n)
  | set2 p q i j => obtain ⟨_, _, _, h, n, m⟩ := h; exact .set2 (h.mono s) (i n) (j m)
  | one a i => obtain ⟨_, _, h, n⟩ := h; exact .one (h.mono s) (i n)
  | rng a b i j => obtain ⟨_, _, _, h, n, m⟩ := h; exact .rng (h.mono s) (i n) (j m)
noncomputable def relOps : List Str := [S "=", S "#", S "<", S "<=", S ">", S ">=", S "s<=", S "s>=", S "IN", S "IS"]
noncomputable def sumOps : List Str := [S "+", S "-", S "OR", S "s+", S "s-", S "neg", S "s~"]
noncomputable def mulOps : List Str := [S "*", S "DIV", S "MOD", S "&", S "s*", S "s/"]
noncomputable def levelOp (op : Str) : Int := if op ∈ relOps then 1 else if op ∈ sumOps then 2 else if op ∈ mulOps then 3 else 4
noncomputable def cutOps : List Str := [S "s+", S "s-", S "s*", S "s/", S "s<=", S "s>="]
section
variable {prog : Program} {w : World} {A : Around} {E : Value → Shared → Prop} {s : Shared} {h₀ : Heap} {L a : Addr} {news : Led} {vs : List Value} {n : Nat} {Q : Value → Shared → Prop}
theorem row_item {value slice : Expr} {k : Int} {u : Tok} {v : Value} (N : News h₀ L s.heap news) (ma : (a, W.listOf vs.toArray n) ∈ news) (h0 : 0 ≤ k) (h1 : k < 2 ^ 63) (hx : vs[k.toNat]? = some v) (h : Q v s)
    (hs : subscripted slice false (.ref a) (.int k u) = operate [.ref a, .int k u] (getItem (.ref a) (.int k u)) := by with_unfolding_all rfl) : wpAny (model prog w) A (subscriptTail value slice (.ref a) (.int k u)) Q E s := by
  have hL : s.heap.IsList a vs.toArray := News.isList N ma
  exact tail_any hL.typeIs slot_list_getitem.lookup (wpAny_getItem_list hL h0 h1 (by simpa using hx) h) hs
end
end T_N0
local macro_rules | `(tactic| ktr_room) => `(tactic| exact rm0 (by assumption))
local macro_rules | `(tactic| ktr_units) => `(tactic| exact rm1 (by assumption))
local macro_rules | `(tactic| k_ne) => `(tactic| ((try dsimp only); first | with_reducible assumption | exact Nat.ne_of_gt (by simp only [*]) | exact Nat.ne_of_lt (by simp only [*])))
local macro_rules | `(tactic| k_mem) => `(tactic| first | assumption | exact List.mem_cons_self | (refine' List.mem_cons_of_mem _ ?_; k_mem) | (refine' List.mem_append_left _ ?_; k_mem) | (refine' List.mem_append_right _ ?_; k_mem))
section T_N1
section
theorem lv1 {op : Str} (h : op ∈ relOps) : levelOp op = 1 := if_pos h
theorem lv2 {op : Str} (h1 : op ∉ relOps) (h : op ∈ sumOps) : levelOp op = 2 := by unfold levelOp; rw [if_neg h1, if_pos h]
theorem lv3 {op : Str} (h1 : op ∉ relOps) (h2 : op ∉ sumOps) (h : op ∈ mulOps) : levelOp op = 3 := by unfold levelOp; rw [if_neg h1, if_neg h2, if_pos h]
theorem lv4 {op : Str} (h1 : op ∉ relOps) (h2 : op ∉ sumOps) (h : op ∉ mulOps) : levelOp op = 4 := by unfold levelOp; rw [if_neg h1, if_neg h2, if_neg h]
noncomputable def cutOp (op : Str) : Str := if op ∈ cutOps then Txt.slice op (some 1) none else op
theorem level_ok (w : World) (news : Led) (x dx : Addr) (es : List DictEntry) (n : Nat) (op : Str) (to : Tok) (m1 : (x, instObj 389 dx) ∈ news) (m2 : (dx, dictOf es n) ∈ news) (e1 : getL (S "op") es = some (some (.str op to))) :
    Runs w 1 news 172 [.ref x] (fun r news' => news' = news ∧ ∃ t, r = .int (levelOp op) t) := by
  unfold Runs
  w_top off
  k_fill
  intro p loose mean mg mb dp un gd cn cs a ccd cl outer A₀ base h₀ L m s Q E B F X N T hk hd hu hret
  refine wpAny_call ?_
  k_dflt ktr_enter
  repeat' (first | (k_unfold; (try dsimp only)) | (k_end; wrow_close) | ((with_reducible show wpAny _ _ (getAttr (Value.ref _) _ _) _ _ _); first | (k_here; k_dflt (refine' get_own ?k1 ?k2 ?k3 ?k4 ?k5 ?k6 ?k7 ?k8 ?k9 ?_; (case k1 => k_asm); (case k2 => k_asm); (case k3 => k_inst); (case k4 => k_is); (case k5 => k_is); (case k6 => k_is); (case k7 => k_is); (case k8 => assumption); (case k9 => first | rfl | assumption); k_whole))) | walk1 | (dsimp only; walk1) | (leave1; walk_say "STEP leave1"; try dsimp only) | fail "no step")
  · exact hret _ _ _ _ ⟨rfl, _, by rw [lv1 (mem_any (by assumption))]⟩ (by assumption) (News.t1 (by assumption))
  · exact hret _ _ _ _ ⟨rfl, _, by rw [lv2 (not_any (xs := relOps) (by assumption)) (mem_any (xs := sumOps) (by assumption))]⟩ (by assumption) (News.t1 (News.t1 (by assumption)))
  · exact hret _ _ _ _ ⟨rfl, _, by rw [lv3 (not_any (xs := relOps) (by assumption)) (not_any (xs := sumOps) (by assumption)) (mem_any (xs := mulOps) (by assumption))]⟩ (by assumption) (News.t1 (News.t1 (News.t1 (by assumption))))
  · exact hret _ _ _ _ ⟨rfl, _, by rw [lv4 (not_any (xs := relOps) (by assumption)) (not_any (xs := sumOps) (by assumption)) (not_any (xs := mulOps) (by assumption))]⟩ (by assumption) (News.t1 (News.t1 (News.t1 (by assumption))))
theorem opword_ok (w : World) (news : Led) (op : Str) (to : Tok) (hlen : 1 ≤ op.length ∧ op.length ≤ 10) :
    Runs w 1 news 250 [.str op to] (fun r news' => news' = news ∧ ∃ t, r = .str (cutOp op) t) := by
  unfold Runs
  k_fill
  intro p loose mean mg mb dp un gd cn cs a ccd cl outer A₀ base h₀ L m s Q E B F X N T hk hd hu hret
  refine wpAny_call ?_
  k_dflt ktr_enter
  repeat' (first | (k_unfold; (try dsimp only)) | (k_end; wrow_close) | ((with_reducible show wpAny _ _ (getAttr (Value.ref _) _ _) _ _ _); first | (k_here; k_dflt (refine' get_own ?k1 ?k2 ?k3 ?k4 ?k5 ?k6 ?k7 ?k8 ?k9 ?_; (case k1 => k_asm); (case k2 => k_asm); (case k3 => k_inst); (case k4 => k_is); (case k5 => k_is); (case k6 => k_is); (case k7 => k_is); (case k8 => assumption); (case k9 => first | rfl | assumption); k_whole))) | walk1 | (dsimp only; walk1) | (leave1; walk_say "STEP leave1"; try dsimp only) | fail "no step")
  · exact hret _ _ _ _ ⟨rfl, _, by rw [cutOp, if_pos (mem_any (xs := cutOps) (by assumption))]⟩ (by assumption) (News.t1 (by assumption))
  · exact hret _ _ _ _ ⟨rfl, _, by rw [cutOp, if_neg (not_any (xs := cutOps) (by assumption))]⟩ (by assumption) (News.t1 (by assumption))
end
end T_N1
theorem in_nil {w : World} {A : Around} {E : Value → Shared → Prop} {s : Shared} {h₀ : Heap} {L d0 : Addr} {news : Led} {o0 : Obj} {x : Str} {t : Tok} {Q : Value → Shared → Prop} (N : News h₀ L s.heap news) (m : (d0, o0) ∈ news) (a : (d0 == sysModules) = false) (b : Obj.IsDictOf (strKind PR w) o0 [])
    (h : Q (.bool false) { s with toks := s.toks + 1 }) : wpAny (model PR w) A (compareOp .In (.str x t) (.ref d0)) Q E s :=
  in_strTab (D := []) (TabAt.ofNews N m a b .nil) h
section T_N2
local macro_rules | `(tactic| walk_at "no such key 0") => `(tactic| fail)
section
noncomputable def TextPost (news : Led) (x : Str) (r : Value) (news' : Led) : Prop := news' = news ∧ ∃ t, r = .str x t
theorem taken_ok (w : World) (news : Led) (nm : Addr) (y : Str) (ty : Tok) (O : NamesO w news (.ref nm)) :
    Runs w 1 news 80 [.ref nm, .str y ty] (fun r news' => news' = news ∧ r = .bool false) := by
  obtain ⟨x, dn, en, nn, tm, sc, d0, n0, o0, hx, w1, w2, w3, w4, w5, w6, w9, w10, w7, w8⟩ := O
  cases hx
  unfold Runs
  w_top off
  k_fill
  intro p loose mean mg mb dp un gd cn cs a ccd cl outer A₀ base h₀ L m s Q E B F X N T hk hd hu hret
  refine wpAny_call ?_
  k_dflt ktr_enter
  repeat' (first | (k_unfold; (try dsimp only)) | (k_end; wrow_close) | ((with_reducible show wpAny _ _ (getAttr (Value.ref _) _ _) _ _ _); first | (k_here; k_dflt (refine' get_own ?k1 ?k2 ?k3 ?k4 ?k5 ?k6 ?k7 ?k8 ?k9 ?_; (case k1 => k_asm); (case k2 => k_asm); (case k3 => k_inst); (case k4 => k_is); (case k5 => k_is); (case k6 => k_is); (case k7 => k_is); (case k8 => assumption); (case k9 => first | rfl | assumption); k_whole))) | ((with_reducible show wpAny _ _ (compareOp CmpOp.In (Value.str _ _) (Value.ref _)) _ _ _); first | (k_here; k_dflt (refine' in_nil ?N ?m ?a ?b ?_; (case N => k_asm); (case b => assumption); (case m => k_mem); (case a => assumption)))) | walk1 | (dsimp only; walk1) | (leave1; walk_say "STEP leave1"; try dsimp only) | fail "no step")
  (with_reducible rename Fr _ _ _ _ => F1)
  (with_reducible rename News _ _ _ _ => N1)
  k_dflt (refine iter_listUnr rfl F1 N1 w5 rfl (vs := [.ref d0]) rfl (fun I l1 => ListRest.succ (fun it h tk hc F2 N2 => ?_)))
  clear F1 N1
  repeat' (first | (k_unfold; (try dsimp only)) | (k_end; wrow_close) | ((with_reducible show wpAny _ _ (getAttr (Value.ref _) _ _) _ _ _); first | (k_here; k_dflt (refine' get_own ?k1 ?k2 ?k3 ?k4 ?k5 ?k6 ?k7 ?k8 ?k9 ?_; (case k1 => k_asm); (case k2 => k_asm); (case k3 => k_inst); (case k4 => k_is); (case k5 => k_is); (case k6 => k_is); (case k7 => k_is); (case k8 => assumption); (case k9 => first | rfl | assumption); k_whole))) | ((with_reducible show wpAny _ _ (compareOp CmpOp.In (Value.str _ _) (Value.ref _)) _ _ _); first | (k_here; k_dflt (refine' in_nil ?N ?m ?a ?b ?_; (case N => k_asm); (case b => assumption); (case m => k_mem); (case a => assumption)))) | walk1 | (dsimp only; walk1) | (leave1; walk_say "STEP leave1"; try dsimp only) | fail "no step")
  refine UnrEnd.intro (by assumption) (by assumption) news (fun p hp => hp) (fun p hp => Nat.ne_of_lt (l1 p hp)) ⟨w5, ListRest.zero fun h3 tk3 F3 N3 => ?_⟩
  clear F2 N2
  repeat' (first | (k_unfold; (try dsimp only)) | (k_end; wrow_close) | ((with_reducible show wpAny _ _ (getAttr (Value.ref _) _ _) _ _ _); first | (k_here; k_dflt (refine' get_own ?k1 ?k2 ?k3 ?k4 ?k5 ?k6 ?k7 ?k8 ?k9 ?_; (case k1 => k_asm); (case k2 => k_asm); (case k3 => k_inst); (case k4 => k_is); (case k5 => k_is); (case k6 => k_is); (case k7 => k_is); (case k8 => assumption); (case k9 => first | rfl | assumption); k_whole))) | ((with_reducible show wpAny _ _ (compareOp CmpOp.In (Value.str _ _) (Value.ref _)) _ _ _); first | (k_here; k_dflt (refine' in_nil ?N ?m ?a ?b ?_; (case N => k_asm); (case b => assumption); (case m => k_mem); (case a => assumption)))) | walk1 | (dsimp only; walk1) | (leave1; walk_say "STEP leave1"; try dsimp only) | fail "no step")
  exact hret _ _ _ _ ⟨rfl, rfl⟩ (by assumption) (by assumption)
theorem oname_ok (w : World) (news : Led) (nm : Addr) (ob : Value) (x : Str) (Nm : NamesO w news (.ref nm)) (O : ObjO news ob x) :
    Runs w 1 news 108 [.ref nm, ob] (TextPost news x) := by
  obtain ⟨xx, dn, en, nn, tm, sc, d0, n0, o0, hx, w1, w2, w3, w4, w5, w6, w9, w10, w7, w8⟩ := Nm
  cases hx
  obtain ⟨x1, dx, es, n, t1, t2, rfl, o1, o2, o3, o4⟩ := O
  unfold Runs
  k_fill
  intro p loose mean mg mb dp un gd cn cs a ccd cl outer A₀ base h₀ L m s Q E B F X N T hk hd hu hret
  refine wpAny_call ?_
  k_dflt ktr_enter
  repeat' (first | (k_unfold; (try dsimp only)) | (k_end; wrow_close) | ((with_reducible show wpAny _ _ (getAttr (Value.ref _) _ _) _ _ _); first | (k_here; k_dflt (refine' get_own ?k1 ?k2 ?k3 ?k4 ?k5 ?k6 ?k7 ?k8 ?k9 ?_; (case k1 => k_asm); (case k2 => k_asm); (case k3 => k_inst); (case k4 => k_is); (case k5 => k_is); (case k6 => k_is); (case k7 => k_is); (case k8 => assumption); (case k9 => first | rfl | assumption); k_whole))) | ((with_reducible show wpAny _ _ (compareOp CmpOp.In (Value.str _ _) (Value.ref _)) _ _ _); first | (k_here; k_dflt (refine' in_nil ?N ?m ?a ?b ?_; (case N => k_asm); (case b => assumption); (case m => k_mem); (case a => assumption)))) | walk1 | (dsimp only; walk1) | (leave1; walk_say "STEP leave1"; try dsimp only) | fail "no step")
  · exact hret _ _ _ _ ⟨rfl, _, rfl⟩ (by assumption) (News.t1 (by assumption))
theorem whole_ok (w : World) (news : Led) (i : Int) (ti : Tok) (h0 : 0 ≤ i) (h1 : i < 12) :
    Runs w 1 news 186 [.int i ti] (TextPost news (intText i)) := by
  unfold Runs
  k_fill
  intro p loose mean mg mb dp un gd cn cs a ccd cl outer A₀ base h₀ L m s Q E B F X N T hk hd hu hret
  refine wpAny_call ?_
  k_dflt ktr_enter
  repeat' (first | (k_unfold; (try dsimp only)) | (k_end; wrow_close) | ((with_reducible show wpAny _ _ (getAttr (Value.ref _) _ _) _ _ _); first | (k_here; k_dflt (refine' get_own ?k1 ?k2 ?k3 ?k4 ?k5 ?k6 ?k7 ?k8 ?k9 ?_; (case k1 => k_asm); (case k2 => k_asm); (case k3 => k_inst); (case k4 => k_is); (case k5 => k_is); (case k6 => k_is); (case k7 => k_is); (case k8 => assumption); (case k9 => first | rfl | assumption); k_whole))) | ((with_reducible show wpAny _ _ (compareOp CmpOp.In (Value.str _ _) (Value.ref _)) _ _ _); first | (k_here; k_dflt (refine' in_nil ?N ?m ?a ?b ?_; (case N => k_asm); (case b => assumption); (case m => k_mem); (case a => assumption)))) | walk1 | (dsimp only; walk1) | (leave1; walk_say "STEP leave1"; try dsimp only) | fail "no step")
  · exact hret _ _ _ _ ⟨rfl, _, rfl⟩ (by assumption) (by assumption)
end
end T_N2
section T_N3
section
theorem truth_ok (w : World) (news : Led) (nm : Addr) (i : Int) (ti : Tok) (O : NamesO w news (.ref nm)) (h0 : 0 ≤ i) (h1 : i < 2) :
    Runs w 2 news 214 [.ref nm, .int i ti] (TextPost news (boolText i)) := by
  have O' := O
  obtain ⟨x, dn, en, nn, tm, sc, d0, n0, o0, hx, w1, w2, w3, w4, w5, w6, w9, w10, w7, w8⟩ := O
  cases hx
  unfold Runs
  w_top off
  k_fill
  intro p loose mean mg mb dp un gd cn cs a ccd cl outer A₀ base h₀ L m s Q E B F X N T hk hd hu hret
  refine wpAny_call ?_
  k_dflt ktr_enter
  repeat' (first | (k_unfold; (try dsimp only)) | (k_end; wrow_close) | ((with_reducible show wpAny _ _ (call (Value.ref _) _ _) _ _ _); first | (k_here; k_dflt (refine' Runs.useE (taken_ok _ _ _ _ _ ?O) (F := by k_asm) (B := by k_asm) (X := by k_asm) (T := by k_asm) (hk := by first | exact rfl | assumption) (N := ?N) (hd := ?hd) (hu := ?hu) (ret := ?_); (case N => k_asm); (case O => first | assumption | exact NamesO.mono (by assumption) (fun p hp => by k_mem)); (case hd => first | (show _ + _ < _; lia) | ktr_room); (case hu => ktr_units); intro _ _ _ _; (try dsimp only); k_sweep))) | ((with_reducible show wpAny _ _ (getAttr (Value.ref _) _ _) _ _ _); first | (k_here; k_dflt (refine' get_own ?k1 ?k2 ?k3 ?k4 ?k5 ?k6 ?k7 ?k8 ?k9 ?_; (case k1 => k_asm); (case k2 => k_asm); (case k3 => k_inst); (case k4 => k_is); (case k5 => k_is); (case k6 => k_is); (case k7 => k_is); (case k8 => assumption); (case k9 => first | rfl | assumption); k_whole))) | ((with_reducible show wpAny _ _ (getMethod (Value.ref _) _ _) _ _ _); first | (k_here; k_dflt (refine' method_inst ?F ?X ?I ?g ?f ?t ?l ?_; (case F => k_asm); (case X => k_asm); (case I => k_inst); (case g => k_is); (case f => k_is); (case t => k_is); (case l => assumption); k_whole))) | walk1 | (dsimp only; walk1) | (leave1; walk_say "STEP leave1"; try dsimp only) | fail "no step")
  · exact hret _ _ _ _ ⟨rfl, _, by rw [boolText, if_pos (by assumption)]⟩ (by assumption) (by assumption)
  · exact hret _ _ _ _ ⟨rfl, _, by rw [boolText, if_neg (by assumption)]⟩ (by assumption) (by assumption)
theorem const_int (w : World) (news : Led) (nm : Addr) (ty : Value) (i : Int) (ti : Tok) (O : TypeO news ty (S "integer")) (h0 : 0 ≤ i) (h1 : i < 12) :
    Runs w 2 news 228 [.ref nm, ty, .int i ti] (TextPost news (intText i)) := by
  obtain ⟨x, dx, es, n, t1, rfl, w1, w2, w3⟩ := O
  unfold Runs
  k_fill
  intro p loose mean mg mb dp un gd cn cs a ccd cl outer A₀ base h₀ L m s Q E B F X N T hk hd hu hret
  refine wpAny_call ?_
  k_dflt ktr_enter
  repeat' (first | (k_unfold; (try dsimp only)) | (k_end; wrow_close) | ((with_reducible show wpAny _ _ (call (Value.ref _) _ _) _ _ _); first | (k_here; k_dflt (refine' Runs.useS (whole_ok _ _ _ _ ?h0 ?h1) (F := by k_asm) (B := by k_asm) (X := by k_asm) (T := by k_asm) (hk := by first | exact rfl | assumption) (N := ?N) (hd := ?hd) (hu := ?hu) (ret := ?_); (case N => k_asm); (case h0 => assumption); (case h1 => assumption); (case hd => first | (show _ + _ < _; lia) | ktr_room); (case hu => ktr_units); intro _ _ _ _ _; (try dsimp only); k_sweep)) | (k_here; k_dflt (refine' Runs.useS (truth_ok _ _ _ _ _ ?O ?h0 ?h1) (F := by k_asm) (B := by k_asm) (X := by k_asm) (T := by k_asm) (hk := by first | exact rfl | assumption) (N := ?N) (hd := ?hd) (hu := ?hu) (ret := ?_); (case N => k_asm); (case O => first | assumption | exact NamesO.mono (by assumption) (fun p hp => by k_mem)); (case h0 => assumption); (case h1 => assumption); (case hd => first | (show _ + _ < _; lia) | ktr_room); (case hu => ktr_units); intro _ _ _ _ _; (try dsimp only); k_sweep)) | (k_here; k_dflt (refine' Runs.useE (taken_ok _ _ _ _ _ ?O) (F := by k_asm) (B := by k_asm) (X := by k_asm) (T := by k_asm) (hk := by first | exact rfl | assumption) (N := ?N) (hd := ?hd) (hu := ?hu) (ret := ?_); (case N => k_asm); (case O => first | assumption | exact NamesO.mono (by assumption) (fun p hp => by k_mem)); (case hd => first | (show _ + _ < _; lia) | ktr_room); (case hu => ktr_units); intro _ _ _ _; (try dsimp only); k_sweep))) | ((with_reducible show wpAny _ _ (getAttr (Value.ref _) _ _) _ _ _); first | (k_here; k_dflt (refine' get_own ?k1 ?k2 ?k3 ?k4 ?k5 ?k6 ?k7 ?k8 ?k9 ?_; (case k1 => k_asm); (case k2 => k_asm); (case k3 => k_inst); (case k4 => k_is); (case k5 => k_is); (case k6 => k_is); (case k7 => k_is); (case k8 => assumption); (case k9 => first | rfl | assumption); k_whole))) | ((with_reducible show wpAny _ _ (getMethod (Value.ref _) _ _) _ _ _); first | (k_here; k_dflt (refine' method_inst ?F ?X ?I ?g ?f ?t ?l ?_; (case F => k_asm); (case X => k_asm); (case I => k_inst); (case g => k_is); (case f => k_is); (case t => k_is); (case l => assumption); k_whole))) | walk1 | (dsimp only; walk1) | (leave1; walk_say "STEP leave1"; try dsimp only) | fail "no step")
  exact hret _ _ _ _ ⟨rfl, _, rfl⟩ (by assumption) (by assumption)
theorem const_bool (w : World) (news : Led) (nm : Addr) (ty : Value) (i : Int) (ti : Tok) (Nm : NamesO w news (.ref nm)) (O : TypeO news ty (S "boolean")) (h0 : 0 ≤ i) (h1 : i < 2) :
    Runs w 3 news 228 [.ref nm, ty, .int i ti] (TextPost news (boolText i)) := by
  obtain ⟨x, dx, es, n, t1, rfl, w1, w2, w3⟩ := O
  unfold Runs
  k_fill
  intro p loose mean mg mb dp un gd cn cs a ccd cl outer A₀ base h₀ L m s Q E B F X N T hk hd hu hret
  refine wpAny_call ?_
  k_dflt ktr_enter
  repeat' (first | (k_unfold; (try dsimp only)) | (k_end; wrow_close) | ((with_reducible show wpAny _ _ (call (Value.ref _) _ _) _ _ _); first | (k_here; k_dflt (refine' Runs.useS (whole_ok _ _ _ _ ?h0 ?h1) (F := by k_asm) (B := by k_asm) (X := by k_asm) (T := by k_asm) (hk := by first | exact rfl | assumption) (N := ?N) (hd := ?hd) (hu := ?hu) (ret := ?_); (case N => k_asm); (case h0 => assumption); (case h1 => assumption); (case hd => first | (show _ + _ < _; lia) | ktr_room); (case hu => ktr_units); intro _ _ _ _ _; (try dsimp only); k_sweep)) | (k_here; k_dflt (refine' Runs.useS (truth_ok _ _ _ _ _ ?O ?h0 ?h1) (F := by k_asm) (B := by k_asm) (X := by k_asm) (T := by k_asm) (hk := by first | exact rfl | assumption) (N := ?N) (hd := ?hd) (hu := ?hu) (ret := ?_); (case N => k_asm); (case O => first | assumption | exact NamesO.mono (by assumption) (fun p hp => by k_mem)); (case h0 => assumption); (case h1 => assumption); (case hd => first | (show _ + _ < _; lia) | ktr_room); (case hu => ktr_units); intro _ _ _ _ _; (try dsimp only); k_sweep)) | (k_here; k_dflt (refine' Runs.useE (taken_ok _ _ _ _ _ ?O) (F := by k_asm) (B := by k_asm) (X := by k_asm) (T := by k_asm) (hk := by first | exact rfl | assumption) (N := ?N) (hd := ?hd) (hu := ?hu) (ret := ?_); (case N => k_asm); (case O => first | assumption | exact NamesO.mono (by assumption) (fun p hp => by k_mem)); (case hd => first | (show _ + _ < _; lia) | ktr_room); (case hu => ktr_units); intro _ _ _ _; (try dsimp only); k_sweep))) | ((with_reducible show wpAny _ _ (getAttr (Value.ref _) _ _) _ _ _); first | (k_here; k_dflt (refine' get_own ?k1 ?k2 ?k3 ?k4 ?k5 ?k6 ?k7 ?k8 ?k9 ?_; (case k1 => k_asm); (case k2 => k_asm); (case k3 => k_inst); (case k4 => k_is); (case k5 => k_is); (case k6 => k_is); (case k7 => k_is); (case k8 => assumption); (case k9 => first | rfl | assumption); k_whole))) | ((with_reducible show wpAny _ _ (getMethod (Value.ref _) _ _) _ _ _); first | (k_here; k_dflt (refine' method_inst ?F ?X ?I ?g ?f ?t ?l ?_; (case F => k_asm); (case X => k_asm); (case I => k_inst); (case g => k_is); (case f => k_is); (case t => k_is); (case l => assumption); k_whole))) | walk1 | (dsimp only; walk1) | (leave1; walk_say "STEP leave1"; try dsimp only) | fail "no step")
  exact hret _ _ _ _ ⟨rfl, _, rfl⟩ (by assumption) (by assumption)
end
end T_N3
/-- expr_text of the node k at the level l gives the text x, on every ledger that bears what `news` bears -/
noncomputable def PTx (w : World) (sz : Nat) (news : Led) (nm : Addr) (k : Value) (l : Int) (x : Str) : Prop := ∀ (t : Tok) (news' : Led), (∀ p ∈ news, p ∈ news') → Runs w sz news' 236 [.ref nm, k, .int l t] (TextPost news' x)
theorem level_is {w : World} {news : Led} {x dx : Addr} {es : List DictEntry} {n : Nat} {op : Str} {to : Tok} {lv : Int} (hl : levelOp op = lv) (m1 : (x, instObj 389 dx) ∈ news) (m2 : (dx, dictOf es n) ∈ news) (e1 : getL (S "op") es = some (some (.str op to))) :
    Runs w 1 news 172 [.ref x] (fun r news' => news' = news ∧ ∃ t, r = .int lv t) := hl ▸ level_ok w news x dx es n op to m1 m2 e1
theorem opword_is {w : World} {news : Led} {op o : Str} {to : Tok} (hc : cutOp op = o) (hlen : 1 ≤ op.length ∧ op.length ≤ 10) : Runs w 1 news 250 [.str op to] (TextPost news o) := hc ▸ opword_ok w news op to hlen
theorem PTx.run {w : World} {sz : Nat} {news news' : Led} {nm : Addr} {k : Value} {l : Int} {x : Str} {t : Tok} (P : PTx w sz news nm k l x) (S : ∀ p ∈ news, p ∈ news') : Runs w sz news' 236 [.ref nm, k, .int l t] (TextPost news' x) := P t news' S
local macro_rules | `(tactic| walk_at "n room") => `(tactic| first | decide | exact Nat.le_refl _ | exact Nat.le_succ _ | exact Nat.le_add_left _ _ | lia)
section T_N4
section
theorem infix_ok (w : World) (sz : Nat) (news : Led) (nm x dx l : Addr) (es : List DictEntry) (n kn : Nat) (k1 k2 : Value) (o : Str) (to t1 t2 : Tok) (l1 l2 : Int) (xa xb : Str)
    (m1 : (x, instObj 389 dx) ∈ news) (m2 : (dx, dictOf es n) ∈ news) (m3 : (l, W.listOf [k1, k2].toArray kn) ∈ news) (e3 : getL (S "kids") es = some (some (.ref l)))
    (P1 : PTx w sz news nm k1 l1 xa) (P2 : PTx w sz news nm k2 l2 xb) (ha : xa.length ≤ 100000) (hb : xb.length ≤ 100000) (ho : o.length ≤ 10) :
    Runs w (sz + 1) news 243 [.ref nm, .ref x, .str o to, .int l1 t1, .int l2 t2] (TextPost news (xa ++ S " " ++ o ++ S " " ++ xb)) := by
  unfold Runs
  w_top off
  k_fill
  intro p loose mean mg mb dp un gd cn cs a ccd cl outer A₀ base h₀ L m s Q E B F X N T hk hd hu hret
  refine wpAny_call ?_
  k_dflt ktr_enter
  repeat' (first | (k_unfold; (try dsimp only)) | (k_end; wrow_close) | ((with_reducible show wpAny _ _ (call (Value.ref _) _ _) _ _ _); first | (k_here; k_dflt (refine' Runs.useS (PTx.run ?P ?S) (F := by k_asm) (B := by k_asm) (X := by k_asm) (T := by k_asm) (hk := by first | exact rfl | assumption) (N := ?N) (hd := ?hd) (hu := ?hu) (ret := ?_); (case N => k_asm); (case P => assumption); (case S => exact fun p hp => by k_mem); (case hd => exact room_d (by with_reducible assumption) (by exact rfl) (by walk_at "n room")); (case hu => first | exact room_u _ (by with_reducible assumption) (by exact rfl) (by walk_at "n room") | exact room_u (sz := 5) _ (by with_reducible assumption) (by exact rfl) (by walk_at "n room") | ktr_units); intro _ _ _ _ _; (try dsimp only); k_sweep))) | ((with_reducible show wpAny _ _ (subscriptTail _ _ _ _) _ _ _); first | (k_here; k_dflt (refine' row_item ?N ?ma ?a ?b ?x ?_; (case N => k_asm); (case ma => k_mem); (case a => decide); (case b => decide); (case x => rfl); k_whole))) | ((with_reducible show wpAny _ _ (getAttr (Value.ref _) _ _) _ _ _); first | (k_here; k_dflt (refine' get_own ?k1 ?k2 ?k3 ?k4 ?k5 ?k6 ?k7 ?k8 ?k9 ?_; (case k1 => k_asm); (case k2 => k_asm); (case k3 => k_inst); (case k4 => k_is); (case k5 => k_is); (case k6 => k_is); (case k7 => k_is); (case k8 => assumption); (case k9 => first | rfl | assumption); k_whole))) | ((with_reducible show wpAny _ _ (getMethod (Value.ref _) _ _) _ _ _); first | (k_here; k_dflt (refine' method_inst ?F ?X ?I ?g ?f ?t ?l ?_; (case F => k_asm); (case X => k_asm); (case I => k_inst); (case g => k_is); (case f => k_is); (case t => k_is); (case l => assumption); k_whole))) | walk1 | (dsimp only; walk1) | (leave1; walk_say "STEP leave1"; try dsimp only) | fail "no step")
  exact hret _ _ _ _ ⟨rfl, _, rfl⟩ (by assumption) (by assumption)
theorem op_neg (w : World) (sz : Nat) (news : Led) (nm x dx l : Addr) (es : List DictEntry) (n kn : Nat) (op : Str) (k1 : Value) (to : Tok) (xa : Str)
    (m1 : (x, instObj 389 dx) ∈ news) (m2 : (dx, dictOf es n) ∈ news) (m3 : (l, W.listOf [k1].toArray kn) ∈ news) (e1 : getL (S "op") es = some (some (.str op to))) (e3 : getL (S "kids") es = some (some (.ref l)))
    (ho : op = S "neg" ∨ op = S "s~") (P1 : PTx w sz news nm k1 3 xa) (ha : xa.length ≤ 100000) : Runs w (sz + 1) news 257 [.ref nm, .ref x] (TextPost news (S "-" ++ xa)) := by
  rcases ho with rfl | rfl
  all_goals (
    unfold Runs
    k_fill
    intro p loose mean mg mb dp un gd cn cs a ccd cl outer A₀ base h₀ L m s Q E B F X N T hk hd hu hret
    refine wpAny_call ?_
    k_dflt ktr_enter
    repeat' (first | (k_unfold; (try dsimp only)) | (k_end; wrow_close) | ((with_reducible show wpAny _ _ (call (Value.ref _) _ _) _ _ _); first | (k_here; k_dflt (refine' Runs.useS (PTx.run ?P ?S) (F := by k_asm) (B := by k_asm) (X := by k_asm) (T := by k_asm) (hk := by first | exact rfl | assumption) (N := ?N) (hd := ?hd) (hu := ?hu) (ret := ?_); (case N => k_asm); (case P => assumption); (case S => exact fun p hp => by k_mem); (case hd => exact room_d (by with_reducible assumption) (by exact rfl) (by walk_at "n room")); (case hu => first | exact room_u _ (by with_reducible assumption) (by exact rfl) (by walk_at "n room") | exact room_u (sz := 5) _ (by with_reducible assumption) (by exact rfl) (by walk_at "n room") | ktr_units); intro _ _ _ _ _; (try dsimp only); k_sweep))) | ((with_reducible show wpAny _ _ (subscriptTail _ _ _ _) _ _ _); first | (k_here; k_dflt (refine' row_item ?N ?ma ?a ?b ?x ?_; (case N => k_asm); (case ma => k_mem); (case a => decide); (case b => decide); (case x => rfl); k_whole))) | ((with_reducible show wpAny _ _ (getAttr (Value.ref _) _ _) _ _ _); first | (k_here; k_dflt (refine' get_own ?k1 ?k2 ?k3 ?k4 ?k5 ?k6 ?k7 ?k8 ?k9 ?_; (case k1 => k_asm); (case k2 => k_asm); (case k3 => k_inst); (case k4 => k_is); (case k5 => k_is); (case k6 => k_is); (case k7 => k_is); (case k8 => assumption); (case k9 => first | rfl | assumption); k_whole))) | ((with_reducible show wpAny _ _ (getMethod (Value.ref _) _ _) _ _ _); first | (k_here; k_dflt (refine' method_inst ?F ?X ?I ?g ?f ?t ?l ?_; (case F => k_asm); (case X => k_asm); (case I => k_inst); (case g => k_is); (case f => k_is); (case t => k_is); (case l => assumption); k_whole))) | walk1 | (dsimp only; walk1) | (leave1; walk_say "STEP leave1"; try dsimp only) | fail "no step")
    exact hret _ _ _ _ ⟨rfl, _, rfl⟩ (by assumption) (by assumption))
theorem op_bin (w : World) (sz : Nat) (news : Led) (nm x dx l : Addr) (es : List DictEntry) (n kn : Nat) (op o : Str) (k1 k2 : Value) (to : Tok) (xa xb : Str) (lv : Int) (l1 l2 : Int)
    (m1 : (x, instObj 389 dx) ∈ news) (m2 : (dx, dictOf es n) ∈ news) (m3 : (l, W.listOf [k1, k2].toArray kn) ∈ news) (e1 : getL (S "op") es = some (some (.str op to))) (e3 : getL (S "kids") es = some (some (.ref l)))
    (hlv : levelOp op = lv) (hc : cutOp op = o) (n1 : (op == S "neg") = false) (n2 : (op == S "s~") = false) (n3 : (op == S "IS") = false) (hop : 1 ≤ op.length ∧ op.length ≤ 10) (ho : o.length ≤ 10)
    (hcase : (lv = 1 ∧ l1 = 2 ∧ l2 = 2) ∨ (lv = 2 ∧ l1 = 2 ∧ l2 = 3) ∨ (lv = 3 ∧ l1 = 3 ∧ l2 = 4))
    (P1 : PTx w sz news nm k1 l1 xa) (P2 : PTx w sz news nm k2 l2 xb) (ha : xa.length ≤ 100000) (hb : xb.length ≤ 100000) : Runs w (sz + 2) news 257 [.ref nm, .ref x] (TextPost news (xa ++ S " " ++ o ++ S " " ++ xb)) := by
  rcases hcase with ⟨rfl, rfl, rfl⟩ | ⟨rfl, rfl, rfl⟩ | ⟨rfl, rfl, rfl⟩
  all_goals (
    unfold Runs
    k_fill
    intro p loose mean mg mb dp un gd cn cs a ccd cl outer A₀ base h₀ L m s Q E B F X N T hk hd hu hret
    refine wpAny_call ?_
    k_dflt ktr_enter
    repeat' (first | (k_unfold; (try dsimp only)) | (k_end; wrow_close) | ((with_reducible show wpAny _ _ (call (Value.ref _) _ _) _ _ _); first | (k_here; k_dflt (refine' Runs.useS (infix_ok _ _ _ _ _ _ _ _ _ _ _ _ _ _ _ _ _ _ _ _ ?m1 ?m2 ?m3 ?e3 ?P1 ?P2 ?ha ?hb ?ho) (F := by k_asm) (B := by k_asm) (X := by k_asm) (T := by k_asm) (hk := by first | exact rfl | assumption) (N := ?N) (hd := ?hd) (hu := ?hu) (ret := ?_); (case N => k_asm); (case e3 => assumption); (case m1 => k_mem); (case m2 => k_mem); (case m3 => k_mem); (case P1 => assumption); (case P2 => assumption); (case ha => assumption); (case hb => assumption); (case ho => assumption); (case hd => exact room_d (by with_reducible assumption) (by exact rfl) (by walk_at "n room")); (case hu => first | exact room_u _ (by with_reducible assumption) (by exact rfl) (by walk_at "n room") | exact room_u (sz := 5) _ (by with_reducible assumption) (by exact rfl) (by walk_at "n room") | ktr_units); intro _ _ _ _ _; (try dsimp only); k_sweep)) | (k_here; k_dflt (refine' Runs.useS (opword_is ?hc ?hl) (F := by k_asm) (B := by k_asm) (X := by k_asm) (T := by k_asm) (hk := by first | exact rfl | assumption) (N := ?N) (hd := ?hd) (hu := ?hu) (ret := ?_); (case hc => assumption); (case N => k_asm); (case hl => assumption); (case hd => exact room_d (by with_reducible assumption) (by exact rfl) (by walk_at "n room")); (case hu => first | exact room_u 1 (by with_reducible assumption) (by exact rfl) (by walk_at "n room") | exact room_u (sz := 5) 1 (by with_reducible assumption) (by exact rfl) (by walk_at "n room") | ktr_units); intro _ _ _ _ _; (try dsimp only); k_sweep)) | (k_here; k_dflt (refine' Runs.useI (level_is ?hl ?h1 ?h2 ?h3) (F := by k_asm) (B := by k_asm) (X := by k_asm) (T := by k_asm) (hk := by first | exact rfl | assumption) (N := ?N) (hd := ?hd) (hu := ?hu) (ret := ?_); (case hl => assumption); (case N => k_asm); (case h3 => assumption); (case h1 => k_mem); (case h2 => k_mem); (case hd => exact room_d (by with_reducible assumption) (by exact rfl) (by walk_at "n room")); (case hu => first | exact room_u 1 (by with_reducible assumption) (by exact rfl) (by walk_at "n room") | exact room_u (sz := 5) 1 (by with_reducible assumption) (by exact rfl) (by walk_at "n room") | ktr_units); intro _ _ _ _ _; (try dsimp only); k_sweep)) | (k_here; k_dflt (refine' Runs.useS (PTx.run ?P ?S) (F := by k_asm) (B := by k_asm) (X := by k_asm) (T := by k_asm) (hk := by first | exact rfl | assumption) (N := ?N) (hd := ?hd) (hu := ?hu) (ret := ?_); (case N => k_asm); (case P => assumption); (case S => exact fun p hp => by k_mem); (case hd => exact room_d (by with_reducible assumption) (by exact rfl) (by walk_at "n room")); (case hu => first | exact room_u _ (by with_reducible assumption) (by exact rfl) (by walk_at "n room") | exact room_u (sz := 5) _ (by with_reducible assumption) (by exact rfl) (by walk_at "n room") | ktr_units); intro _ _ _ _ _; (try dsimp only); k_sweep))) | ((with_reducible show wpAny _ _ (subscriptTail _ _ _ _) _ _ _); first | (k_here; k_dflt (refine' row_item ?N ?ma ?a ?b ?x ?_; (case N => k_asm); (case ma => k_mem); (case a => decide); (case b => decide); (case x => rfl); k_whole))) | ((with_reducible show wpAny _ _ (getAttr (Value.ref _) _ _) _ _ _); first | (k_here; k_dflt (refine' get_own ?k1 ?k2 ?k3 ?k4 ?k5 ?k6 ?k7 ?k8 ?k9 ?_; (case k1 => k_asm); (case k2 => k_asm); (case k3 => k_inst); (case k4 => k_is); (case k5 => k_is); (case k6 => k_is); (case k7 => k_is); (case k8 => assumption); (case k9 => first | rfl | assumption); k_whole))) | ((with_reducible show wpAny _ _ (getMethod (Value.ref _) _ _) _ _ _); first | (k_here; k_dflt (refine' method_inst ?F ?X ?I ?g ?f ?t ?l ?_; (case F => k_asm); (case X => k_asm); (case I => k_inst); (case g => k_is); (case f => k_is); (case t => k_is); (case l => assumption); k_whole))) | walk1 | (dsimp only; walk1) | (leave1; walk_say "STEP leave1"; try dsimp only) | fail "no step")
    exact hret _ _ _ _ ⟨rfl, _, rfl⟩ (by assumption) (by assumption))
end
end T_N4
noncomputable def PB (w : World) (f : Addr) (sz : Nat) (news : Led) (nm : Addr) (v : Value) (x : Str) : Prop := ∀ (news' : Led), (∀ p ∈ news, p ∈ news') → Runs w sz news' f [.ref nm, v] (TextPost news' x)
theorem PB.run {w : World} {f : Addr} {sz : Nat} {news news' : Led} {nm : Addr} {k : Value} {x : Str} (P : PB w f sz news nm k x) (S : ∀ p ∈ news, p ∈ news') : Runs w sz news' f [.ref nm, k] (TextPost news' x) := P news' S
section T_N5
local macro_rules | `(tactic| walk_at "no such key 0") => `(tactic| fail)
section
theorem expr_of (w : World) (sz : Nat) (news : Led) (nm x dx : Addr) (es : List DictEntry) (n : Nat) (op : Str) (to : Tok) (lv l : Int) (tl : Tok) (xa : Str) (m1 : (x, instObj 389 dx) ∈ news) (m2 : (dx, dictOf es n) ∈ news) (e1 : getL (S "op") es = some (some (.str op to)))
    (hlv : levelOp op = lv) (P : PB w 262 sz news nm (.ref x) xa) (ha : xa.length ≤ 100000) : Runs w (sz + 2) news 236 [.ref nm, .ref x, .int l tl] (TextPost news (if lv < l then S "(" ++ xa ++ S ")" else xa)) := by
  unfold Runs
  w_top off
  k_fill
  intro p loose mean mg mb dp un gd cn cs a ccd cl outer A₀ base h₀ L m s Q E B F X N T hk hd hu hret
  refine wpAny_call ?_
  k_dflt (refine' code_def ?k1 ?k2 ?k3 ?k4 ?k5 ?kA ?kF ?kK ?k6 ?k7 ?k8 ?k9 ?kB ?_ ?c2 ?c3 ?c4 ?c5; (case kA => exact rfl); (case kF => exact rfl); (case kK => first | exact rfl | assumption); (case k1 => k_asm); (case k2 => k_asm); (case k3 => k_asm); (case k4 => k_asm); (case k5 => k_asm); (case k6 => k_is); (case k7 => k_is); (case k8 => ktr_room); (case k9 => first | exact BindsTo.of_eq rfl | exact binds_K (by k_in) rfl (by k_is) rfl rfl rfl); (case c5 => decide); (case kB => exact locs rfl); (case c2 => exact rfl); (case c3 => exact rfl); (case c4 => exact rfl); k_whole; intro _ _ _ _ _ _ _ _ _; (try dsimp only); (try k_fold))
  repeat' (first | (k_unfold; (try dsimp only)) | (k_end; wrow_close) | ((with_reducible show wpAny _ _ (call (Value.ref _) _ _) _ _ _); first | (k_here; k_dflt (refine' Runs.useS (const_int _ _ _ _ _ _ ?Ty ?h0 ?h1) (F := by k_asm) (B := by k_asm) (X := by k_asm) (T := by k_asm) (hk := by first | exact rfl | assumption) (N := ?N) (hd := ?hd) (hu := ?hu) (ret := ?_); (case N => k_asm); (case h0 => assumption); (case h1 => assumption); (case Ty => first | assumption | exact TypeO.mono (by assumption) (fun p hp => by k_mem)); (case hd => exact room_d (by with_reducible assumption) (by exact rfl) (by walk_at "n room")); (case hu => first | exact room_u 2 (by with_reducible assumption) (by exact rfl) (by walk_at "n room") | exact room_u (sz := 5) 2 (by with_reducible assumption) (by exact rfl) (by walk_at "n room") | ktr_units); intro _ _ _ _ _; (try dsimp only); k_sweep)) | (k_here; k_dflt (refine' Runs.useS (oname_ok _ _ _ _ _ ?O ?Ob) (F := by k_asm) (B := by k_asm) (X := by k_asm) (T := by k_asm) (hk := by first | exact rfl | assumption) (N := ?N) (hd := ?hd) (hu := ?hu) (ret := ?_); (case N => k_asm); (case O => first | assumption | exact NamesO.mono (by assumption) (fun p hp => by k_mem)); (case Ob => first | assumption | exact ObjO.mono (by assumption) (fun p hp => by k_mem)); (case hd => exact room_d (by with_reducible assumption) (by exact rfl) (by walk_at "n room")); (case hu => first | exact room_u 1 (by with_reducible assumption) (by exact rfl) (by walk_at "n room") | exact room_u (sz := 5) 1 (by with_reducible assumption) (by exact rfl) (by walk_at "n room") | ktr_units); intro _ _ _ _ _; (try dsimp only); k_sweep)) | (k_here; k_dflt (refine' Runs.useS (PB.run ?P ?S) (F := by k_asm) (B := by k_asm) (X := by k_asm) (T := by k_asm) (hk := by first | exact rfl | assumption) (N := ?N) (hd := ?hd) (hu := ?hu) (ret := ?_); (case N => k_asm); (case P => assumption); (case S => exact fun p hp => by k_mem); (case hd => exact room_d (by with_reducible assumption) (by exact rfl) (by walk_at "n room")); (case hu => first | exact room_u _ (by with_reducible assumption) (by exact rfl) (by walk_at "n room") | exact room_u (sz := 5) _ (by with_reducible assumption) (by exact rfl) (by walk_at "n room") | ktr_units); intro _ _ _ _ _; (try dsimp only); k_sweep)) | (k_here; k_dflt (refine' Runs.useI (level_is ?hl ?h1 ?h2 ?h3) (F := by k_asm) (B := by k_asm) (X := by k_asm) (T := by k_asm) (hk := by first | exact rfl | assumption) (N := ?N) (hd := ?hd) (hu := ?hu) (ret := ?_); (case hl => assumption); (case N => k_asm); (case h3 => assumption); (case h1 => k_mem); (case h2 => k_mem); (case hd => exact room_d (by with_reducible assumption) (by exact rfl) (by walk_at "n room")); (case hu => first | exact room_u 1 (by with_reducible assumption) (by exact rfl) (by walk_at "n room") | exact room_u (sz := 5) 1 (by with_reducible assumption) (by exact rfl) (by walk_at "n room") | ktr_units); intro _ _ _ _ _; (try dsimp only); k_sweep)) | (k_here; k_dflt (refine' Runs.useS (PTx.run ?P ?S) (F := by k_asm) (B := by k_asm) (X := by k_asm) (T := by k_asm) (hk := by first | exact rfl | assumption) (N := ?N) (hd := ?hd) (hu := ?hu) (ret := ?_); (case N => k_asm); (case P => assumption); (case S => exact fun p hp => by k_mem); (case hd => exact room_d (by with_reducible assumption) (by exact rfl) (by walk_at "n room")); (case hu => first | exact room_u _ (by with_reducible assumption) (by exact rfl) (by walk_at "n room") | exact room_u (sz := 5) _ (by with_reducible assumption) (by exact rfl) (by walk_at "n room") | ktr_units); intro _ _ _ _ _; (try dsimp only); k_sweep))) | ((with_reducible show wpAny _ _ (subscriptTail _ _ _ _) _ _ _); first | (k_here; k_dflt (refine' row_item ?N ?ma ?a ?b ?x ?_; (case N => k_asm); (case ma => k_mem); (case a => decide); (case b => decide); (case x => rfl); k_whole))) | ((with_reducible show wpAny _ _ (getAttr (Value.ref _) _ _) _ _ _); first | (k_here; k_dflt (refine' get_own ?k1 ?k2 ?k3 ?k4 ?k5 ?k6 ?k7 ?k8 ?k9 ?_; (case k1 => k_asm); (case k2 => k_asm); (case k3 => k_inst); (case k4 => k_is); (case k5 => k_is); (case k6 => k_is); (case k7 => k_is); (case k8 => assumption); (case k9 => first | rfl | assumption); k_whole))) | ((with_reducible show wpAny _ _ (getMethod (Value.ref _) _ _) _ _ _); first | (k_here; k_dflt (refine' method_inst ?F ?X ?I ?g ?f ?t ?l ?_; (case F => k_asm); (case X => k_asm); (case I => k_inst); (case g => k_is); (case f => k_is); (case t => k_is); (case l => assumption); k_whole))) | walk1 | (dsimp only; walk1) | (leave1; walk_say "STEP leave1"; try dsimp only) | fail "no step")
  · exact hret _ _ _ _ ⟨rfl, _, by rw [if_pos (by assumption)]⟩ (by assumption) (by assumption)
  · exact hret _ _ _ _ ⟨rfl, _, by rw [if_neg (by assumption)]⟩ (by assumption) (by assumption)
theorem expr_of1 (w : World) (sz : Nat) (news : Led) (nm x dx : Addr) (es : List DictEntry) (n : Nat) (op : Str) (to : Tok) (lv : Int) (xa : Str) (m1 : (x, instObj 389 dx) ∈ news) (m2 : (dx, dictOf es n) ∈ news) (e1 : getL (S "op") es = some (some (.str op to)))
    (hlv : levelOp op = lv) (h1 : 1 ≤ lv) (P : PB w 262 sz news nm (.ref x) xa) (ha : xa.length ≤ 100000) : Runs w (sz + 2) news 236 [.ref nm, .ref x] (TextPost news xa) := by
  unfold Runs
  k_fill
  intro p loose mean mg mb dp un gd cn cs a ccd cl outer A₀ base h₀ L m s Q E B F X N T hk hd hu hret
  refine wpAny_call ?_
  k_dflt (refine' code_def ?k1 ?k2 ?k3 ?k4 ?k5 ?kA ?kF ?kK ?k6 ?k7 ?k8 ?k9 ?kB ?_ ?c2 ?c3 ?c4 ?c5; (case kA => exact rfl); (case kF => exact rfl); (case kK => first | exact rfl | assumption); (case k1 => k_asm); (case k2 => k_asm); (case k3 => k_asm); (case k4 => k_asm); (case k5 => k_asm); (case k6 => k_is); (case k7 => k_is); (case k8 => ktr_room); (case k9 => first | exact BindsTo.of_eq rfl | exact binds_K (by k_in) rfl (by k_is) rfl rfl rfl); (case c5 => decide); (case kB => exact locs rfl); (case c2 => exact rfl); (case c3 => exact rfl); (case c4 => exact rfl); k_whole; intro _ _ _ _ _ _ _ _ _; (try dsimp only); (try k_fold))
  repeat' (first | (k_unfold; (try dsimp only)) | (k_end; wrow_close) | ((with_reducible show wpAny _ _ (call (Value.ref _) _ _) _ _ _); first | (k_here; k_dflt (refine' Runs.useS (const_int _ _ _ _ _ _ ?Ty ?h0 ?h1) (F := by k_asm) (B := by k_asm) (X := by k_asm) (T := by k_asm) (hk := by first | exact rfl | assumption) (N := ?N) (hd := ?hd) (hu := ?hu) (ret := ?_); (case N => k_asm); (case h0 => assumption); (case h1 => assumption); (case Ty => first | assumption | exact TypeO.mono (by assumption) (fun p hp => by k_mem)); (case hd => exact room_d (by with_reducible assumption) (by exact rfl) (by walk_at "n room")); (case hu => first | exact room_u 2 (by with_reducible assumption) (by exact rfl) (by walk_at "n room") | exact room_u (sz := 5) 2 (by with_reducible assumption) (by exact rfl) (by walk_at "n room") | ktr_units); intro _ _ _ _ _; (try dsimp only); k_sweep)) | (k_here; k_dflt (refine' Runs.useS (oname_ok _ _ _ _ _ ?O ?Ob) (F := by k_asm) (B := by k_asm) (X := by k_asm) (T := by k_asm) (hk := by first | exact rfl | assumption) (N := ?N) (hd := ?hd) (hu := ?hu) (ret := ?_); (case N => k_asm); (case O => first | assumption | exact NamesO.mono (by assumption) (fun p hp => by k_mem)); (case Ob => first | assumption | exact ObjO.mono (by assumption) (fun p hp => by k_mem)); (case hd => exact room_d (by with_reducible assumption) (by exact rfl) (by walk_at "n room")); (case hu => first | exact room_u 1 (by with_reducible assumption) (by exact rfl) (by walk_at "n room") | exact room_u (sz := 5) 1 (by with_reducible assumption) (by exact rfl) (by walk_at "n room") | ktr_units); intro _ _ _ _ _; (try dsimp only); k_sweep)) | (k_here; k_dflt (refine' Runs.useS (PB.run ?P ?S) (F := by k_asm) (B := by k_asm) (X := by k_asm) (T := by k_asm) (hk := by first | exact rfl | assumption) (N := ?N) (hd := ?hd) (hu := ?hu) (ret := ?_); (case N => k_asm); (case P => assumption); (case S => exact fun p hp => by k_mem); (case hd => exact room_d (by with_reducible assumption) (by exact rfl) (by walk_at "n room")); (case hu => first | exact room_u _ (by with_reducible assumption) (by exact rfl) (by walk_at "n room") | exact room_u (sz := 5) _ (by with_reducible assumption) (by exact rfl) (by walk_at "n room") | ktr_units); intro _ _ _ _ _; (try dsimp only); k_sweep)) | (k_here; k_dflt (refine' Runs.useI (level_is ?hl ?h1 ?h2 ?h3) (F := by k_asm) (B := by k_asm) (X := by k_asm) (T := by k_asm) (hk := by first | exact rfl | assumption) (N := ?N) (hd := ?hd) (hu := ?hu) (ret := ?_); (case hl => assumption); (case N => k_asm); (case h3 => assumption); (case h1 => k_mem); (case h2 => k_mem); (case hd => exact room_d (by with_reducible assumption) (by exact rfl) (by walk_at "n room")); (case hu => first | exact room_u 1 (by with_reducible assumption) (by exact rfl) (by walk_at "n room") | exact room_u (sz := 5) 1 (by with_reducible assumption) (by exact rfl) (by walk_at "n room") | ktr_units); intro _ _ _ _ _; (try dsimp only); k_sweep)) | (k_here; k_dflt (refine' Runs.useS (PTx.run ?P ?S) (F := by k_asm) (B := by k_asm) (X := by k_asm) (T := by k_asm) (hk := by first | exact rfl | assumption) (N := ?N) (hd := ?hd) (hu := ?hu) (ret := ?_); (case N => k_asm); (case P => assumption); (case S => exact fun p hp => by k_mem); (case hd => exact room_d (by with_reducible assumption) (by exact rfl) (by walk_at "n room")); (case hu => first | exact room_u _ (by with_reducible assumption) (by exact rfl) (by walk_at "n room") | exact room_u (sz := 5) _ (by with_reducible assumption) (by exact rfl) (by walk_at "n room") | ktr_units); intro _ _ _ _ _; (try dsimp only); k_sweep))) | ((with_reducible show wpAny _ _ (subscriptTail _ _ _ _) _ _ _); first | (k_here; k_dflt (refine' row_item ?N ?ma ?a ?b ?x ?_; (case N => k_asm); (case ma => k_mem); (case a => decide); (case b => decide); (case x => rfl); k_whole))) | ((with_reducible show wpAny _ _ (getAttr (Value.ref _) _ _) _ _ _); first | (k_here; k_dflt (refine' get_own ?k1 ?k2 ?k3 ?k4 ?k5 ?k6 ?k7 ?k8 ?k9 ?_; (case k1 => k_asm); (case k2 => k_asm); (case k3 => k_inst); (case k4 => k_is); (case k5 => k_is); (case k6 => k_is); (case k7 => k_is); (case k8 => assumption); (case k9 => first | rfl | assumption); k_whole))) | ((with_reducible show wpAny _ _ (getMethod (Value.ref _) _ _) _ _ _); first | (k_here; k_dflt (refine' method_inst ?F ?X ?I ?g ?f ?t ?l ?_; (case F => k_asm); (case X => k_asm); (case I => k_inst); (case g => k_is); (case f => k_is); (case t => k_is); (case l => assumption); k_whole))) | walk1 | (dsimp only; walk1) | (leave1; walk_say "STEP leave1"; try dsimp only) | fail "no step")
  exact hret _ _ _ _ ⟨rfl, _, rfl⟩ (by assumption) (by assumption)
theorem bare_op (w : World) (sz : Nat) (news : Led) (nm x dx : Addr) (es : List DictEntry) (n : Nat) (op : Str) (to : Tok) (lv : Int) (xa : Str) (m1 : (x, instObj 389 dx) ∈ news) (m2 : (dx, dictOf es n) ∈ news) (e1 : getL (S "op") es = some (some (.str op to)))
    (hlv : levelOp op = lv) (h4 : lv < 4) (P : PB w 257 sz news nm (.ref x) xa) : Runs w (sz + 2) news 262 [.ref nm, .ref x] (TextPost news xa) := by
  unfold Runs
  k_fill
  intro p loose mean mg mb dp un gd cn cs a ccd cl outer A₀ base h₀ L m s Q E B F X N T hk hd hu hret
  refine wpAny_call ?_
  k_dflt (refine' code_defC ?k1 ?k2 ?k3 ?k4 ?k5 ?kA ?kF ?kK ?k6 ?k7 ?k8 ?k9 ?kB ?kD ?_ ?c2 ?c3 ?c4; (case kA => exact rfl); (case kF => exact rfl); (case kK => first | exact rfl | assumption); (case k1 => k_asm); (case k2 => k_asm); (case k3 => k_asm); (case k4 => k_asm); (case k5 => k_asm); (case k6 => k_is); (case k7 => k_is); (case k8 => ktr_room); (case k9 => first | exact BindsTo.of_eq rfl | exact binds_K (by k_in) rfl (by k_is) rfl rfl rfl); (case kB => exact rfl); (case kD => decide +kernel); (case c2 => exact rfl); (case c3 => exact rfl); (case c4 => exact rfl); k_whole; intro _ _ _ _ _ _ _ N' Y' B' _ _ _; k_cells Y'; (try simp only [List.cons_append, List.nil_append] at N'); (try dsimp only); (try k_lift B'); (try k_fold))
  repeat' (first | (k_unfold; (try dsimp only)) | (k_end; wrow_close) | ((with_reducible show wpAny _ _ (call (Value.ref _) _ _) _ _ _); first | (k_here; k_dflt (refine' Runs.useS (const_int _ _ _ _ _ _ ?Ty ?h0 ?h1) (F := by k_asm) (B := by k_asm) (X := by k_asm) (T := by k_asm) (hk := by first | exact rfl | assumption) (N := ?N) (hd := ?hd) (hu := ?hu) (ret := ?_); (case N => k_asm); (case h0 => assumption); (case h1 => assumption); (case Ty => first | assumption | exact TypeO.mono (by assumption) (fun p hp => by k_mem)); (case hd => exact room_d (by with_reducible assumption) (by exact rfl) (by walk_at "n room")); (case hu => first | exact room_u 2 (by with_reducible assumption) (by exact rfl) (by walk_at "n room") | exact room_u (sz := 5) 2 (by with_reducible assumption) (by exact rfl) (by walk_at "n room") | ktr_units); intro _ _ _ _ _; (try dsimp only); k_sweep)) | (k_here; k_dflt (refine' Runs.useS (oname_ok _ _ _ _ _ ?O ?Ob) (F := by k_asm) (B := by k_asm) (X := by k_asm) (T := by k_asm) (hk := by first | exact rfl | assumption) (N := ?N) (hd := ?hd) (hu := ?hu) (ret := ?_); (case N => k_asm); (case O => first | assumption | exact NamesO.mono (by assumption) (fun p hp => by k_mem)); (case Ob => first | assumption | exact ObjO.mono (by assumption) (fun p hp => by k_mem)); (case hd => exact room_d (by with_reducible assumption) (by exact rfl) (by walk_at "n room")); (case hu => first | exact room_u 1 (by with_reducible assumption) (by exact rfl) (by walk_at "n room") | exact room_u (sz := 5) 1 (by with_reducible assumption) (by exact rfl) (by walk_at "n room") | ktr_units); intro _ _ _ _ _; (try dsimp only); k_sweep)) | (k_here; k_dflt (refine' Runs.useS (PB.run ?P ?S) (F := by k_asm) (B := by k_asm) (X := by k_asm) (T := by k_asm) (hk := by first | exact rfl | assumption) (N := ?N) (hd := ?hd) (hu := ?hu) (ret := ?_); (case N => k_asm); (case P => assumption); (case S => exact fun p hp => by k_mem); (case hd => exact room_d (by with_reducible assumption) (by exact rfl) (by walk_at "n room")); (case hu => first | exact room_u _ (by with_reducible assumption) (by exact rfl) (by walk_at "n room") | exact room_u (sz := 5) _ (by with_reducible assumption) (by exact rfl) (by walk_at "n room") | ktr_units); intro _ _ _ _ _; (try dsimp only); k_sweep)) | (k_here; k_dflt (refine' Runs.useI (level_is ?hl ?h1 ?h2 ?h3) (F := by k_asm) (B := by k_asm) (X := by k_asm) (T := by k_asm) (hk := by first | exact rfl | assumption) (N := ?N) (hd := ?hd) (hu := ?hu) (ret := ?_); (case hl => assumption); (case N => k_asm); (case h3 => assumption); (case h1 => k_mem); (case h2 => k_mem); (case hd => exact room_d (by with_reducible assumption) (by exact rfl) (by walk_at "n room")); (case hu => first | exact room_u 1 (by with_reducible assumption) (by exact rfl) (by walk_at "n room") | exact room_u (sz := 5) 1 (by with_reducible assumption) (by exact rfl) (by walk_at "n room") | ktr_units); intro _ _ _ _ _; (try dsimp only); k_sweep)) | (k_here; k_dflt (refine' Runs.useS (PTx.run ?P ?S) (F := by k_asm) (B := by k_asm) (X := by k_asm) (T := by k_asm) (hk := by first | exact rfl | assumption) (N := ?N) (hd := ?hd) (hu := ?hu) (ret := ?_); (case N => k_asm); (case P => assumption); (case S => exact fun p hp => by k_mem); (case hd => exact room_d (by with_reducible assumption) (by exact rfl) (by walk_at "n room")); (case hu => first | exact room_u _ (by with_reducible assumption) (by exact rfl) (by walk_at "n room") | exact room_u (sz := 5) _ (by with_reducible assumption) (by exact rfl) (by walk_at "n room") | ktr_units); intro _ _ _ _ _; (try dsimp only); k_sweep))) | ((with_reducible show wpAny _ _ (subscriptTail _ _ _ _) _ _ _); first | (k_here; k_dflt (refine' row_item ?N ?ma ?a ?b ?x ?_; (case N => k_asm); (case ma => k_mem); (case a => decide); (case b => decide); (case x => rfl); k_whole))) | ((with_reducible show wpAny _ _ (getAttr (Value.ref _) _ _) _ _ _); first | (k_here; k_dflt (refine' get_own ?k1 ?k2 ?k3 ?k4 ?k5 ?k6 ?k7 ?k8 ?k9 ?_; (case k1 => k_asm); (case k2 => k_asm); (case k3 => k_inst); (case k4 => k_is); (case k5 => k_is); (case k6 => k_is); (case k7 => k_is); (case k8 => assumption); (case k9 => first | rfl | assumption); k_whole))) | ((with_reducible show wpAny _ _ (getMethod (Value.ref _) _ _) _ _ _); first | (k_here; k_dflt (refine' method_inst ?F ?X ?I ?g ?f ?t ?l ?_; (case F => k_asm); (case X => k_asm); (case I => k_inst); (case g => k_is); (case f => k_is); (case t => k_is); (case l => assumption); k_whole))) | walk1 | (dsimp only; walk1) | (leave1; walk_say "STEP leave1"; try dsimp only) | fail "no step")
  exact hret _ _ _ _ ⟨rfl, _, rfl⟩ (by assumption) (News.t1 (by assumption))
end
end T_N5
section T_N6
section
theorem lv_s : levelOp (S "var") = 4 ∧ levelOp (S "const") = 4 ∧ levelOp (S "not") = 4 ∧ levelOp (S "set") = 4 := by decide +kernel
theorem bare_var (w : World) (sz : Nat) (news : Led) (nm x dx : Addr) (es : List DictEntry) (n : Nat) (to : Tok) (m1 : (x, instObj 389 dx) ∈ news) (m2 : (dx, dictOf es n) ∈ news) (e1 : getL (S "op") es = some (some (.str (S "var") to))) (Nm : NamesO w news (.ref nm)) (ob : Value) (xa : Str) (e4 : getL (S "value") es = some (some ob)) (v4 : handedIn ob = true) (Ob : ObjO news ob xa) : Runs w 5 news 262 [.ref nm, .ref x] (TextPost news xa) := by
  have Nm' := Nm
  have hlv := lv_s.1
  obtain ⟨nx, dn, en, nn, tm, sc, d0, n0, o0, hx, w1, w2, w3, w4, w5, w6, w9, w10, w7, w8⟩ := Nm
  cases hx
  unfold Runs
  w_top off
  k_fill
  intro p loose mean mg mb dp un gd cn cs a ccd cl outer A₀ base h₀ L m s Q E B F X N T hk hd hu hret
  refine wpAny_call ?_
  k_dflt (refine' code_defC ?k1 ?k2 ?k3 ?k4 ?k5 ?kA ?kF ?kK ?k6 ?k7 ?k8 ?k9 ?kB ?kD ?_ ?c2 ?c3 ?c4; (case kA => exact rfl); (case kF => exact rfl); (case kK => first | exact rfl | assumption); (case k1 => k_asm); (case k2 => k_asm); (case k3 => k_asm); (case k4 => k_asm); (case k5 => k_asm); (case k6 => k_is); (case k7 => k_is); (case k8 => ktr_room); (case k9 => first | exact BindsTo.of_eq rfl | exact binds_K (by k_in) rfl (by k_is) rfl rfl rfl); (case kB => exact rfl); (case kD => decide +kernel); (case c2 => exact rfl); (case c3 => exact rfl); (case c4 => exact rfl); k_whole; intro _ _ _ _ _ _ _ N' Y' B' _ _ _; k_cells Y'; (try simp only [List.cons_append, List.nil_append] at N'); (try dsimp only); (try k_lift B'); (try k_fold))
  repeat' (first | (k_unfold; (try dsimp only)) | (k_end; wrow_close) | ((with_reducible show wpAny _ _ (call (Value.ref _) _ _) _ _ _); first | (k_here; k_dflt (refine' Runs.useS (const_int _ _ _ _ _ _ ?Ty ?h0 ?h1) (F := by k_asm) (B := by k_asm) (X := by k_asm) (T := by k_asm) (hk := by first | exact rfl | assumption) (N := ?N) (hd := ?hd) (hu := ?hu) (ret := ?_); (case N => k_asm); (case h0 => assumption); (case h1 => assumption); (case Ty => first | assumption | exact TypeO.mono (by assumption) (fun p hp => by k_mem)); (case hd => exact room_d (by with_reducible assumption) (by exact rfl) (by walk_at "n room")); (case hu => first | exact room_u 2 (by with_reducible assumption) (by exact rfl) (by walk_at "n room") | exact room_u (sz := 5) 2 (by with_reducible assumption) (by exact rfl) (by walk_at "n room") | ktr_units); intro _ _ _ _ _; (try dsimp only); k_sweep)) | (k_here; k_dflt (refine' Runs.useS (oname_ok _ _ _ _ _ ?O ?Ob) (F := by k_asm) (B := by k_asm) (X := by k_asm) (T := by k_asm) (hk := by first | exact rfl | assumption) (N := ?N) (hd := ?hd) (hu := ?hu) (ret := ?_); (case N => k_asm); (case O => first | assumption | exact NamesO.mono (by assumption) (fun p hp => by k_mem)); (case Ob => first | assumption | exact ObjO.mono (by assumption) (fun p hp => by k_mem)); (case hd => exact room_d (by with_reducible assumption) (by exact rfl) (by walk_at "n room")); (case hu => first | exact room_u 1 (by with_reducible assumption) (by exact rfl) (by walk_at "n room") | exact room_u (sz := 5) 1 (by with_reducible assumption) (by exact rfl) (by walk_at "n room") | ktr_units); intro _ _ _ _ _; (try dsimp only); k_sweep)) | (k_here; k_dflt (refine' Runs.useS (PB.run ?P ?S) (F := by k_asm) (B := by k_asm) (X := by k_asm) (T := by k_asm) (hk := by first | exact rfl | assumption) (N := ?N) (hd := ?hd) (hu := ?hu) (ret := ?_); (case N => k_asm); (case P => assumption); (case S => exact fun p hp => by k_mem); (case hd => exact room_d (by with_reducible assumption) (by exact rfl) (by walk_at "n room")); (case hu => first | exact room_u _ (by with_reducible assumption) (by exact rfl) (by walk_at "n room") | exact room_u (sz := 5) _ (by with_reducible assumption) (by exact rfl) (by walk_at "n room") | ktr_units); intro _ _ _ _ _; (try dsimp only); k_sweep)) | (k_here; k_dflt (refine' Runs.useI (level_is ?hl ?h1 ?h2 ?h3) (F := by k_asm) (B := by k_asm) (X := by k_asm) (T := by k_asm) (hk := by first | exact rfl | assumption) (N := ?N) (hd := ?hd) (hu := ?hu) (ret := ?_); (case hl => assumption); (case N => k_asm); (case h3 => assumption); (case h1 => k_mem); (case h2 => k_mem); (case hd => exact room_d (by with_reducible assumption) (by exact rfl) (by walk_at "n room")); (case hu => first | exact room_u 1 (by with_reducible assumption) (by exact rfl) (by walk_at "n room") | exact room_u (sz := 5) 1 (by with_reducible assumption) (by exact rfl) (by walk_at "n room") | ktr_units); intro _ _ _ _ _; (try dsimp only); k_sweep)) | (k_here; k_dflt (refine' Runs.useS (PTx.run ?P ?S) (F := by k_asm) (B := by k_asm) (X := by k_asm) (T := by k_asm) (hk := by first | exact rfl | assumption) (N := ?N) (hd := ?hd) (hu := ?hu) (ret := ?_); (case N => k_asm); (case P => assumption); (case S => exact fun p hp => by k_mem); (case hd => exact room_d (by with_reducible assumption) (by exact rfl) (by walk_at "n room")); (case hu => first | exact room_u _ (by with_reducible assumption) (by exact rfl) (by walk_at "n room") | exact room_u (sz := 5) _ (by with_reducible assumption) (by exact rfl) (by walk_at "n room") | ktr_units); intro _ _ _ _ _; (try dsimp only); k_sweep))) | ((with_reducible show wpAny _ _ (subscriptTail _ _ _ _) _ _ _); first | (k_here; k_dflt (refine' row_item ?N ?ma ?a ?b ?x ?_; (case N => k_asm); (case ma => k_mem); (case a => decide); (case b => decide); (case x => rfl); k_whole))) | ((with_reducible show wpAny _ _ (getAttr (Value.ref _) _ _) _ _ _); first | (k_here; k_dflt (refine' get_own ?k1 ?k2 ?k3 ?k4 ?k5 ?k6 ?k7 ?k8 ?k9 ?_; (case k1 => k_asm); (case k2 => k_asm); (case k3 => k_inst); (case k4 => k_is); (case k5 => k_is); (case k6 => k_is); (case k7 => k_is); (case k8 => assumption); (case k9 => first | rfl | assumption); k_whole))) | ((with_reducible show wpAny _ _ (getMethod (Value.ref _) _ _) _ _ _); first | (k_here; k_dflt (refine' method_inst ?F ?X ?I ?g ?f ?t ?l ?_; (case F => k_asm); (case X => k_asm); (case I => k_inst); (case g => k_is); (case f => k_is); (case t => k_is); (case l => assumption); k_whole))) | walk1 | (dsimp only; walk1) | (leave1; walk_say "STEP leave1"; try dsimp only) | fail "no step")
  exact hret _ _ _ _ ⟨rfl, _, rfl⟩ (by assumption) (News.t1 (by assumption))
theorem bare_ci (w : World) (sz : Nat) (news : Led) (nm x dx : Addr) (es : List DictEntry) (n : Nat) (to : Tok) (m1 : (x, instObj 389 dx) ∈ news) (m2 : (dx, dictOf es n) ∈ news) (e1 : getL (S "op") es = some (some (.str (S "const") to))) (i : Int) (ti : Tok) (ty : Value) (e2 : getL (S "type") es = some (some ty)) (v2 : handedIn ty = true) (e4 : getL (S "value") es = some (some (.int i ti))) (Ty : TypeO news ty (S "integer")) (h0 : 0 ≤ i) (h1 : i < 12) : Runs w 5 news 262 [.ref nm, .ref x] (TextPost news (intText i)) := by
  have hlv := lv_s.2.1
  unfold Runs
  k_fill
  intro p loose mean mg mb dp un gd cn cs a ccd cl outer A₀ base h₀ L m s Q E B F X N T hk hd hu hret
  refine wpAny_call ?_
  k_dflt (refine' code_defC ?k1 ?k2 ?k3 ?k4 ?k5 ?kA ?kF ?kK ?k6 ?k7 ?k8 ?k9 ?kB ?kD ?_ ?c2 ?c3 ?c4; (case kA => exact rfl); (case kF => exact rfl); (case kK => first | exact rfl | assumption); (case k1 => k_asm); (case k2 => k_asm); (case k3 => k_asm); (case k4 => k_asm); (case k5 => k_asm); (case k6 => k_is); (case k7 => k_is); (case k8 => ktr_room); (case k9 => first | exact BindsTo.of_eq rfl | exact binds_K (by k_in) rfl (by k_is) rfl rfl rfl); (case kB => exact rfl); (case kD => decide +kernel); (case c2 => exact rfl); (case c3 => exact rfl); (case c4 => exact rfl); k_whole; intro _ _ _ _ _ _ _ N' Y' B' _ _ _; k_cells Y'; (try simp only [List.cons_append, List.nil_append] at N'); (try dsimp only); (try k_lift B'); (try k_fold))
  repeat' (first | (k_unfold; (try dsimp only)) | (k_end; wrow_close) | ((with_reducible show wpAny _ _ (call (Value.ref _) _ _) _ _ _); first | (k_here; k_dflt (refine' Runs.useS (const_int _ _ _ _ _ _ ?Ty ?h0 ?h1) (F := by k_asm) (B := by k_asm) (X := by k_asm) (T := by k_asm) (hk := by first | exact rfl | assumption) (N := ?N) (hd := ?hd) (hu := ?hu) (ret := ?_); (case N => k_asm); (case h0 => assumption); (case h1 => assumption); (case Ty => first | assumption | exact TypeO.mono (by assumption) (fun p hp => by k_mem)); (case hd => exact room_d (by with_reducible assumption) (by exact rfl) (by walk_at "n room")); (case hu => first | exact room_u 2 (by with_reducible assumption) (by exact rfl) (by walk_at "n room") | exact room_u (sz := 5) 2 (by with_reducible assumption) (by exact rfl) (by walk_at "n room") | ktr_units); intro _ _ _ _ _; (try dsimp only); k_sweep)) | (k_here; k_dflt (refine' Runs.useS (oname_ok _ _ _ _ _ ?O ?Ob) (F := by k_asm) (B := by k_asm) (X := by k_asm) (T := by k_asm) (hk := by first | exact rfl | assumption) (N := ?N) (hd := ?hd) (hu := ?hu) (ret := ?_); (case N => k_asm); (case O => first | assumption | exact NamesO.mono (by assumption) (fun p hp => by k_mem)); (case Ob => first | assumption | exact ObjO.mono (by assumption) (fun p hp => by k_mem)); (case hd => exact room_d (by with_reducible assumption) (by exact rfl) (by walk_at "n room")); (case hu => first | exact room_u 1 (by with_reducible assumption) (by exact rfl) (by walk_at "n room") | exact room_u (sz := 5) 1 (by with_reducible assumption) (by exact rfl) (by walk_at "n room") | ktr_units); intro _ _ _ _ _; (try dsimp only); k_sweep)) | (k_here; k_dflt (refine' Runs.useS (PB.run ?P ?S) (F := by k_asm) (B := by k_asm) (X := by k_asm) (T := by k_asm) (hk := by first | exact rfl | assumption) (N := ?N) (hd := ?hd) (hu := ?hu) (ret := ?_); (case N => k_asm); (case P => assumption); (case S => exact fun p hp => by k_mem); (case hd => exact room_d (by with_reducible assumption) (by exact rfl) (by walk_at "n room")); (case hu => first | exact room_u _ (by with_reducible assumption) (by exact rfl) (by walk_at "n room") | exact room_u (sz := 5) _ (by with_reducible assumption) (by exact rfl) (by walk_at "n room") | ktr_units); intro _ _ _ _ _; (try dsimp only); k_sweep)) | (k_here; k_dflt (refine' Runs.useI (level_is ?hl ?h1 ?h2 ?h3) (F := by k_asm) (B := by k_asm) (X := by k_asm) (T := by k_asm) (hk := by first | exact rfl | assumption) (N := ?N) (hd := ?hd) (hu := ?hu) (ret := ?_); (case hl => assumption); (case N => k_asm); (case h3 => assumption); (case h1 => k_mem); (case h2 => k_mem); (case hd => exact room_d (by with_reducible assumption) (by exact rfl) (by walk_at "n room")); (case hu => first | exact room_u 1 (by with_reducible assumption) (by exact rfl) (by walk_at "n room") | exact room_u (sz := 5) 1 (by with_reducible assumption) (by exact rfl) (by walk_at "n room") | ktr_units); intro _ _ _ _ _; (try dsimp only); k_sweep)) | (k_here; k_dflt (refine' Runs.useS (PTx.run ?P ?S) (F := by k_asm) (B := by k_asm) (X := by k_asm) (T := by k_asm) (hk := by first | exact rfl | assumption) (N := ?N) (hd := ?hd) (hu := ?hu) (ret := ?_); (case N => k_asm); (case P => assumption); (case S => exact fun p hp => by k_mem); (case hd => exact room_d (by with_reducible assumption) (by exact rfl) (by walk_at "n room")); (case hu => first | exact room_u _ (by with_reducible assumption) (by exact rfl) (by walk_at "n room") | exact room_u (sz := 5) _ (by with_reducible assumption) (by exact rfl) (by walk_at "n room") | ktr_units); intro _ _ _ _ _; (try dsimp only); k_sweep))) | ((with_reducible show wpAny _ _ (subscriptTail _ _ _ _) _ _ _); first | (k_here; k_dflt (refine' row_item ?N ?ma ?a ?b ?x ?_; (case N => k_asm); (case ma => k_mem); (case a => decide); (case b => decide); (case x => rfl); k_whole))) | ((with_reducible show wpAny _ _ (getAttr (Value.ref _) _ _) _ _ _); first | (k_here; k_dflt (refine' get_own ?k1 ?k2 ?k3 ?k4 ?k5 ?k6 ?k7 ?k8 ?k9 ?_; (case k1 => k_asm); (case k2 => k_asm); (case k3 => k_inst); (case k4 => k_is); (case k5 => k_is); (case k6 => k_is); (case k7 => k_is); (case k8 => assumption); (case k9 => first | rfl | assumption); k_whole))) | ((with_reducible show wpAny _ _ (getMethod (Value.ref _) _ _) _ _ _); first | (k_here; k_dflt (refine' method_inst ?F ?X ?I ?g ?f ?t ?l ?_; (case F => k_asm); (case X => k_asm); (case I => k_inst); (case g => k_is); (case f => k_is); (case t => k_is); (case l => assumption); k_whole))) | walk1 | (dsimp only; walk1) | (leave1; walk_say "STEP leave1"; try dsimp only) | fail "no step")
  exact hret _ _ _ _ ⟨rfl, _, rfl⟩ (by assumption) (News.t1 (by assumption))
theorem bare_cb (w : World) (sz : Nat) (news : Led) (nm x dx : Addr) (es : List DictEntry) (n : Nat) (to : Tok) (m1 : (x, instObj 389 dx) ∈ news) (m2 : (dx, dictOf es n) ∈ news) (e1 : getL (S "op") es = some (some (.str (S "const") to))) (Nm : NamesO w news (.ref nm)) (i : Int) (ti : Tok) (ty : Value) (e2 : getL (S "type") es = some (some ty)) (v2 : handedIn ty = true) (e4 : getL (S "value") es = some (some (.int i ti))) (Ty : TypeO news ty (S "boolean")) (h0 : 0 ≤ i) (h1 : i < 2) : Runs w 5 news 262 [.ref nm, .ref x] (TextPost news (boolText i)) := by
  have hlv := lv_s.2.1
  unfold Runs
  k_fill
  intro p loose mean mg mb dp un gd cn cs a ccd cl outer A₀ base h₀ L m s Q E B F X N T hk hd hu hret
  refine wpAny_call ?_
  k_dflt (refine' code_defC ?k1 ?k2 ?k3 ?k4 ?k5 ?kA ?kF ?kK ?k6 ?k7 ?k8 ?k9 ?kB ?kD ?_ ?c2 ?c3 ?c4; (case kA => exact rfl); (case kF => exact rfl); (case kK => first | exact rfl | assumption); (case k1 => k_asm); (case k2 => k_asm); (case k3 => k_asm); (case k4 => k_asm); (case k5 => k_asm); (case k6 => k_is); (case k7 => k_is); (case k8 => ktr_room); (case k9 => first | exact BindsTo.of_eq rfl | exact binds_K (by k_in) rfl (by k_is) rfl rfl rfl); (case kB => exact rfl); (case kD => decide +kernel); (case c2 => exact rfl); (case c3 => exact rfl); (case c4 => exact rfl); k_whole; intro _ _ _ _ _ _ _ N' Y' B' _ _ _; k_cells Y'; (try simp only [List.cons_append, List.nil_append] at N'); (try dsimp only); (try k_lift B'); (try k_fold))
  repeat' (first | (k_unfold; (try dsimp only)) | (k_end; wrow_close) | ((with_reducible show wpAny _ _ (call (Value.ref _) _ _) _ _ _); first | (k_here; k_dflt (refine' Runs.useS (const_bool _ _ _ _ _ _ ?O ?Ty ?h0 ?h1) (F := by k_asm) (B := by k_asm) (X := by k_asm) (T := by k_asm) (hk := by first | exact rfl | assumption) (N := ?N) (hd := ?hd) (hu := ?hu) (ret := ?_); (case N => k_asm); (case O => first | assumption | exact NamesO.mono (by assumption) (fun p hp => by k_mem)); (case h0 => assumption); (case h1 => assumption); (case Ty => first | assumption | exact TypeO.mono (by assumption) (fun p hp => by k_mem)); (case hd => exact room_d (by with_reducible assumption) (by exact rfl) (by walk_at "n room")); (case hu => first | exact room_u 3 (by with_reducible assumption) (by exact rfl) (by walk_at "n room") | exact room_u (sz := 5) 3 (by with_reducible assumption) (by exact rfl) (by walk_at "n room") | ktr_units); intro _ _ _ _ _; (try dsimp only); k_sweep)) | (k_here; k_dflt (refine' Runs.useS (const_int _ _ _ _ _ _ ?Ty ?h0 ?h1) (F := by k_asm) (B := by k_asm) (X := by k_asm) (T := by k_asm) (hk := by first | exact rfl | assumption) (N := ?N) (hd := ?hd) (hu := ?hu) (ret := ?_); (case N => k_asm); (case h0 => assumption); (case h1 => assumption); (case Ty => first | assumption | exact TypeO.mono (by assumption) (fun p hp => by k_mem)); (case hd => exact room_d (by with_reducible assumption) (by exact rfl) (by walk_at "n room")); (case hu => first | exact room_u 2 (by with_reducible assumption) (by exact rfl) (by walk_at "n room") | exact room_u (sz := 5) 2 (by with_reducible assumption) (by exact rfl) (by walk_at "n room") | ktr_units); intro _ _ _ _ _; (try dsimp only); k_sweep)) | (k_here; k_dflt (refine' Runs.useS (oname_ok _ _ _ _ _ ?O ?Ob) (F := by k_asm) (B := by k_asm) (X := by k_asm) (T := by k_asm) (hk := by first | exact rfl | assumption) (N := ?N) (hd := ?hd) (hu := ?hu) (ret := ?_); (case N => k_asm); (case O => first | assumption | exact NamesO.mono (by assumption) (fun p hp => by k_mem)); (case Ob => first | assumption | exact ObjO.mono (by assumption) (fun p hp => by k_mem)); (case hd => exact room_d (by with_reducible assumption) (by exact rfl) (by walk_at "n room")); (case hu => first | exact room_u 1 (by with_reducible assumption) (by exact rfl) (by walk_at "n room") | exact room_u (sz := 5) 1 (by with_reducible assumption) (by exact rfl) (by walk_at "n room") | ktr_units); intro _ _ _ _ _; (try dsimp only); k_sweep)) | (k_here; k_dflt (refine' Runs.useS (PB.run ?P ?S) (F := by k_asm) (B := by k_asm) (X := by k_asm) (T := by k_asm) (hk := by first | exact rfl | assumption) (N := ?N) (hd := ?hd) (hu := ?hu) (ret := ?_); (case N => k_asm); (case P => assumption); (case S => exact fun p hp => by k_mem); (case hd => exact room_d (by with_reducible assumption) (by exact rfl) (by walk_at "n room")); (case hu => first | exact room_u _ (by with_reducible assumption) (by exact rfl) (by walk_at "n room") | exact room_u (sz := 5) _ (by with_reducible assumption) (by exact rfl) (by walk_at "n room") | ktr_units); intro _ _ _ _ _; (try dsimp only); k_sweep)) | (k_here; k_dflt (refine' Runs.useI (level_is ?hl ?h1 ?h2 ?h3) (F := by k_asm) (B := by k_asm) (X := by k_asm) (T := by k_asm) (hk := by first | exact rfl | assumption) (N := ?N) (hd := ?hd) (hu := ?hu) (ret := ?_); (case hl => assumption); (case N => k_asm); (case h3 => assumption); (case h1 => k_mem); (case h2 => k_mem); (case hd => exact room_d (by with_reducible assumption) (by exact rfl) (by walk_at "n room")); (case hu => first | exact room_u 1 (by with_reducible assumption) (by exact rfl) (by walk_at "n room") | exact room_u (sz := 5) 1 (by with_reducible assumption) (by exact rfl) (by walk_at "n room") | ktr_units); intro _ _ _ _ _; (try dsimp only); k_sweep)) | (k_here; k_dflt (refine' Runs.useS (PTx.run ?P ?S) (F := by k_asm) (B := by k_asm) (X := by k_asm) (T := by k_asm) (hk := by first | exact rfl | assumption) (N := ?N) (hd := ?hd) (hu := ?hu) (ret := ?_); (case N => k_asm); (case P => assumption); (case S => exact fun p hp => by k_mem); (case hd => exact room_d (by with_reducible assumption) (by exact rfl) (by walk_at "n room")); (case hu => first | exact room_u _ (by with_reducible assumption) (by exact rfl) (by walk_at "n room") | exact room_u (sz := 5) _ (by with_reducible assumption) (by exact rfl) (by walk_at "n room") | ktr_units); intro _ _ _ _ _; (try dsimp only); k_sweep))) | ((with_reducible show wpAny _ _ (subscriptTail _ _ _ _) _ _ _); first | (k_here; k_dflt (refine' row_item ?N ?ma ?a ?b ?x ?_; (case N => k_asm); (case ma => k_mem); (case a => decide); (case b => decide); (case x => rfl); k_whole))) | ((with_reducible show wpAny _ _ (getAttr (Value.ref _) _ _) _ _ _); first | (k_here; k_dflt (refine' get_own ?k1 ?k2 ?k3 ?k4 ?k5 ?k6 ?k7 ?k8 ?k9 ?_; (case k1 => k_asm); (case k2 => k_asm); (case k3 => k_inst); (case k4 => k_is); (case k5 => k_is); (case k6 => k_is); (case k7 => k_is); (case k8 => assumption); (case k9 => first | rfl | assumption); k_whole))) | ((with_reducible show wpAny _ _ (getMethod (Value.ref _) _ _) _ _ _); first | (k_here; k_dflt (refine' method_inst ?F ?X ?I ?g ?f ?t ?l ?_; (case F => k_asm); (case X => k_asm); (case I => k_inst); (case g => k_is); (case f => k_is); (case t => k_is); (case l => assumption); k_whole))) | walk1 | (dsimp only; walk1) | (leave1; walk_say "STEP leave1"; try dsimp only) | fail "no step")
  exact hret _ _ _ _ ⟨rfl, _, rfl⟩ (by assumption) (News.t1 (by assumption))
theorem bare_not (w : World) (sz : Nat) (news : Led) (nm x dx : Addr) (es : List DictEntry) (n : Nat) (to : Tok) (m1 : (x, instObj 389 dx) ∈ news) (m2 : (dx, dictOf es n) ∈ news) (e1 : getL (S "op") es = some (some (.str (S "not") to))) (l : Addr) (kn : Nat) (k1 : Value) (xa : Str) (m3 : (l, W.listOf [k1].toArray kn) ∈ news) (e3 : getL (S "kids") es = some (some (.ref l))) (P1 : PTx w sz news nm k1 4 xa) (ha : xa.length ≤ 100000) : Runs w (sz + 3) news 262 [.ref nm, .ref x] (TextPost news (S "~" ++ xa)) := by
  have hlv := lv_s.2.2.1
  unfold Runs
  k_fill
  intro p loose mean mg mb dp un gd cn cs a ccd cl outer A₀ base h₀ L m s Q E B F X N T hk hd hu hret
  refine wpAny_call ?_
  k_dflt (refine' code_defC ?k1 ?k2 ?k3 ?k4 ?k5 ?kA ?kF ?kK ?k6 ?k7 ?k8 ?k9 ?kB ?kD ?_ ?c2 ?c3 ?c4; (case kA => exact rfl); (case kF => exact rfl); (case kK => first | exact rfl | assumption); (case k1 => k_asm); (case k2 => k_asm); (case k3 => k_asm); (case k4 => k_asm); (case k5 => k_asm); (case k6 => k_is); (case k7 => k_is); (case k8 => ktr_room); (case k9 => first | exact BindsTo.of_eq rfl | exact binds_K (by k_in) rfl (by k_is) rfl rfl rfl); (case kB => exact rfl); (case kD => decide +kernel); (case c2 => exact rfl); (case c3 => exact rfl); (case c4 => exact rfl); k_whole; intro _ _ _ _ _ _ _ N' Y' B' _ _ _; k_cells Y'; (try simp only [List.cons_append, List.nil_append] at N'); (try dsimp only); (try k_lift B'); (try k_fold))
  repeat' (first | (k_unfold; (try dsimp only)) | (k_end; wrow_close) | ((with_reducible show wpAny _ _ (call (Value.ref _) _ _) _ _ _); first | (k_here; k_dflt (refine' Runs.useS (const_bool _ _ _ _ _ _ ?O ?Ty ?h0 ?h1) (F := by k_asm) (B := by k_asm) (X := by k_asm) (T := by k_asm) (hk := by first | exact rfl | assumption) (N := ?N) (hd := ?hd) (hu := ?hu) (ret := ?_); (case N => k_asm); (case O => first | assumption | exact NamesO.mono (by assumption) (fun p hp => by k_mem)); (case h0 => assumption); (case h1 => assumption); (case Ty => first | assumption | exact TypeO.mono (by assumption) (fun p hp => by k_mem)); (case hd => exact room_d (by with_reducible assumption) (by exact rfl) (by walk_at "n room")); (case hu => first | exact room_u 3 (by with_reducible assumption) (by exact rfl) (by walk_at "n room") | exact room_u (sz := 5) 3 (by with_reducible assumption) (by exact rfl) (by walk_at "n room") | ktr_units); intro _ _ _ _ _; (try dsimp only); k_sweep)) | (k_here; k_dflt (refine' Runs.useS (const_int _ _ _ _ _ _ ?Ty ?h0 ?h1) (F := by k_asm) (B := by k_asm) (X := by k_asm) (T := by k_asm) (hk := by first | exact rfl | assumption) (N := ?N) (hd := ?hd) (hu := ?hu) (ret := ?_); (case N => k_asm); (case h0 => assumption); (case h1 => assumption); (case Ty => first | assumption | exact TypeO.mono (by assumption) (fun p hp => by k_mem)); (case hd => exact room_d (by with_reducible assumption) (by exact rfl) (by walk_at "n room")); (case hu => first | exact room_u 2 (by with_reducible assumption) (by exact rfl) (by walk_at "n room") | exact room_u (sz := 5) 2 (by with_reducible assumption) (by exact rfl) (by walk_at "n room") | ktr_units); intro _ _ _ _ _; (try dsimp only); k_sweep)) | (k_here; k_dflt (refine' Runs.useS (oname_ok _ _ _ _ _ ?O ?Ob) (F := by k_asm) (B := by k_asm) (X := by k_asm) (T := by k_asm) (hk := by first | exact rfl | assumption) (N := ?N) (hd := ?hd) (hu := ?hu) (ret := ?_); (case N => k_asm); (case O => first | assumption | exact NamesO.mono (by assumption) (fun p hp => by k_mem)); (case Ob => first | assumption | exact ObjO.mono (by assumption) (fun p hp => by k_mem)); (case hd => exact room_d (by with_reducible assumption) (by exact rfl) (by walk_at "n room")); (case hu => first | exact room_u 1 (by with_reducible assumption) (by exact rfl) (by walk_at "n room") | exact room_u (sz := 5) 1 (by with_reducible assumption) (by exact rfl) (by walk_at "n room") | ktr_units); intro _ _ _ _ _; (try dsimp only); k_sweep)) | (k_here; k_dflt (refine' Runs.useS (PB.run ?P ?S) (F := by k_asm) (B := by k_asm) (X := by k_asm) (T := by k_asm) (hk := by first | exact rfl | assumption) (N := ?N) (hd := ?hd) (hu := ?hu) (ret := ?_); (case N => k_asm); (case P => assumption); (case S => exact fun p hp => by k_mem); (case hd => exact room_d (by with_reducible assumption) (by exact rfl) (by walk_at "n room")); (case hu => first | exact room_u _ (by with_reducible assumption) (by exact rfl) (by walk_at "n room") | exact room_u (sz := 5) _ (by with_reducible assumption) (by exact rfl) (by walk_at "n room") | ktr_units); intro _ _ _ _ _; (try dsimp only); k_sweep)) | (k_here; k_dflt (refine' Runs.useI (level_is ?hl ?h1 ?h2 ?h3) (F := by k_asm) (B := by k_asm) (X := by k_asm) (T := by k_asm) (hk := by first | exact rfl | assumption) (N := ?N) (hd := ?hd) (hu := ?hu) (ret := ?_); (case hl => assumption); (case N => k_asm); (case h3 => assumption); (case h1 => k_mem); (case h2 => k_mem); (case hd => exact room_d (by with_reducible assumption) (by exact rfl) (by walk_at "n room")); (case hu => first | exact room_u 1 (by with_reducible assumption) (by exact rfl) (by walk_at "n room") | exact room_u (sz := 5) 1 (by with_reducible assumption) (by exact rfl) (by walk_at "n room") | ktr_units); intro _ _ _ _ _; (try dsimp only); k_sweep)) | (k_here; k_dflt (refine' Runs.useS (PTx.run ?P ?S) (F := by k_asm) (B := by k_asm) (X := by k_asm) (T := by k_asm) (hk := by first | exact rfl | assumption) (N := ?N) (hd := ?hd) (hu := ?hu) (ret := ?_); (case N => k_asm); (case P => assumption); (case S => exact fun p hp => by k_mem); (case hd => exact room_d (by with_reducible assumption) (by exact rfl) (by walk_at "n room")); (case hu => first | exact room_u _ (by with_reducible assumption) (by exact rfl) (by walk_at "n room") | exact room_u (sz := 5) _ (by with_reducible assumption) (by exact rfl) (by walk_at "n room") | ktr_units); intro _ _ _ _ _; (try dsimp only); k_sweep))) | ((with_reducible show wpAny _ _ (subscriptTail _ _ _ _) _ _ _); first | (k_here; k_dflt (refine' row_item ?N ?ma ?a ?b ?x ?_; (case N => k_asm); (case ma => k_mem); (case a => decide); (case b => decide); (case x => rfl); k_whole))) | ((with_reducible show wpAny _ _ (getAttr (Value.ref _) _ _) _ _ _); first | (k_here; k_dflt (refine' get_own ?k1 ?k2 ?k3 ?k4 ?k5 ?k6 ?k7 ?k8 ?k9 ?_; (case k1 => k_asm); (case k2 => k_asm); (case k3 => k_inst); (case k4 => k_is); (case k5 => k_is); (case k6 => k_is); (case k7 => k_is); (case k8 => assumption); (case k9 => first | rfl | assumption); k_whole))) | ((with_reducible show wpAny _ _ (getMethod (Value.ref _) _ _) _ _ _); first | (k_here; k_dflt (refine' method_inst ?F ?X ?I ?g ?f ?t ?l ?_; (case F => k_asm); (case X => k_asm); (case I => k_inst); (case g => k_is); (case f => k_is); (case t => k_is); (case l => assumption); k_whole))) | walk1 | (dsimp only; walk1) | (leave1; walk_say "STEP leave1"; try dsimp only) | fail "no step")
  exact hret _ _ _ _ ⟨rfl, _, rfl⟩ (by assumption) (News.t1 (by assumption))
end
end T_N6
section T_N7
section
local macro_rules | `(tactic| walk_at "getAttr ref") => `(tactic| (k_here; k_dflt (refine' get_own ?k1 ?k2 ?k3 ?k4 ?k5 ?k6 ?k7 ?k8 ?k9 ?_; (case k1 => k_asm); (case k2 => k_asm); (case k3 => k_inst); (case k4 => k_is); (case k5 => k_is); (case k6 => k_is); (case k7 => k_is); (case k8 => assumption); (case k9 => first | rfl | assumption); k_whole)))
local macro_rules | `(tactic| walk_at "CompEnd") => `(tactic| (k_dflt (refine LCg.CompEnd.intro (by assumption) (by assumption) _ (fun p hp => hp) (by assumption) (Or.inr ⟨_, by k_mem, rfl, _, rfl⟩) ?_)))
theorem join2 (s a b : Str) : Txt.join s [a, b] = a ++ s ++ b := rfl
theorem join1 (s a : Str) : Txt.join s [a] = a := rfl
theorem join0 (s : Str) : Txt.join s [] = S "" := by rfl
theorem jlen2 {s a b : Str} (hs : s.length ≤ 10) (ha : a.length ≤ 100000) (hb : b.length ≤ 100000) : (Txt.join s [a, b]).length ≤ 300000 := by
  rw [join2, Str.length_append, Str.length_append]; lia
theorem jlen1 {s a : Str} (ha : a.length ≤ 100000) : (Txt.join s [a]).length ≤ 300000 := by
  rw [join1]; lia
theorem comma_len : (Str.ofString ", ").length ≤ 10 ∧ (Str.ofString "..").length ≤ 10 ∧ (Txt.join (Str.ofString ", ") []).length ≤ 10 := by decide +kernel
local macro_rules | `(tactic| walk_at "CompSrc") => `(tactic| (k_here; k_dflt (refine LCg.CompSrc.ledger (by rfl) (by k_asm) (by k_asm) (by k_mem) (by first | size_fits | exact Nat.le_of_ble_eq_true rfl) ?_); intro g'; lcg_lit))
theorem bare_set0 (w : World) (sz : Nat) (news : Led) (nm x dx : Addr) (es : List DictEntry) (n : Nat) (to : Tok) (m1 : (x, instObj 389 dx) ∈ news) (m2 : (dx, dictOf es n) ∈ news) (e1 : getL (S "op") es = some (some (.str (S "set") to))) (l : Addr) (kn : Nat) (m3 : (l, W.listOf [].toArray kn) ∈ news) (e3 : getL (S "kids") es = some (some (.ref l)))  : Runs w (sz + 6) news 262 [.ref nm, .ref x] (TextPost news (S "{" ++ Txt.join (S ", ") [] ++ S "}")) := by
  have hlv := lv_s.2.2.2
  have hj := comma_len.2.2
  unfold Runs
  w_top off
  k_fill
  intro p loose mean mg mb dp un gd cn cs a ccd cl outer A₀ base h₀ L m s Q E B F X N T hk hd hu hret
  refine wpAny_call ?_
  k_dflt (refine' code_defC ?k1 ?k2 ?k3 ?k4 ?k5 ?kA ?kF ?kK ?k6 ?k7 ?k8 ?k9 ?kB ?kD ?_ ?c2 ?c3 ?c4; (case kA => exact rfl); (case kF => exact rfl); (case kK => first | exact rfl | assumption); (case k1 => k_asm); (case k2 => k_asm); (case k3 => k_asm); (case k4 => k_asm); (case k5 => k_asm); (case k6 => k_is); (case k7 => k_is); (case k8 => ktr_room); (case k9 => first | exact BindsTo.of_eq rfl | exact binds_K (by k_in) rfl (by k_is) rfl rfl rfl); (case kB => exact rfl); (case kD => decide +kernel); (case c2 => exact rfl); (case c3 => exact rfl); (case c4 => exact rfl); k_whole; intro _ _ _ _ _ _ _ N' Y' B' _ _ _; k_cells Y'; (try simp only [List.cons_append, List.nil_append] at N'); (try dsimp only); (try k_lift B'); (try k_fold))
  repeat' (first | (k_unfold; (try dsimp only)) | (k_end; wrow_close) | ((with_reducible show wpAny _ _ (call (Value.ref _) _ _) _ _ _); first | (k_here; k_dflt (refine' Runs.useS (const_int _ _ _ _ _ _ ?Ty ?h0 ?h1) (F := by k_asm) (B := by k_asm) (X := by k_asm) (T := by k_asm) (hk := by first | exact rfl | assumption) (N := ?N) (hd := ?hd) (hu := ?hu) (ret := ?_); (case N => k_asm); (case h0 => assumption); (case h1 => assumption); (case Ty => first | assumption | exact TypeO.mono (by assumption) (fun p hp => by k_mem)); (case hd => exact room_d (by with_reducible assumption) (by exact rfl) (by walk_at "n room")); (case hu => first | exact room_u 2 (by with_reducible assumption) (by exact rfl) (by walk_at "n room") | exact room_u (sz := 5) 2 (by with_reducible assumption) (by exact rfl) (by walk_at "n room") | ktr_units); intro _ _ _ _ _; (try dsimp only); k_sweep)) | (k_here; k_dflt (refine' Runs.useS (oname_ok _ _ _ _ _ ?O ?Ob) (F := by k_asm) (B := by k_asm) (X := by k_asm) (T := by k_asm) (hk := by first | exact rfl | assumption) (N := ?N) (hd := ?hd) (hu := ?hu) (ret := ?_); (case N => k_asm); (case O => first | assumption | exact NamesO.mono (by assumption) (fun p hp => by k_mem)); (case Ob => first | assumption | exact ObjO.mono (by assumption) (fun p hp => by k_mem)); (case hd => exact room_d (by with_reducible assumption) (by exact rfl) (by walk_at "n room")); (case hu => first | exact room_u 1 (by with_reducible assumption) (by exact rfl) (by walk_at "n room") | exact room_u (sz := 5) 1 (by with_reducible assumption) (by exact rfl) (by walk_at "n room") | ktr_units); intro _ _ _ _ _; (try dsimp only); k_sweep)) | (k_here; k_dflt (refine' Runs.useS (PB.run ?P ?S) (F := by k_asm) (B := by k_asm) (X := by k_asm) (T := by k_asm) (hk := by first | exact rfl | assumption) (N := ?N) (hd := ?hd) (hu := ?hu) (ret := ?_); (case N => k_asm); (case P => assumption); (case S => exact fun p hp => by k_mem); (case hd => exact room_d (by with_reducible assumption) (by exact rfl) (by walk_at "n room")); (case hu => first | exact room_u _ (by with_reducible assumption) (by exact rfl) (by walk_at "n room") | exact room_u (sz := 5) _ (by with_reducible assumption) (by exact rfl) (by walk_at "n room") | ktr_units); intro _ _ _ _ _; (try dsimp only); k_sweep)) | (k_here; k_dflt (refine' Runs.useI (level_is ?hl ?h1 ?h2 ?h3) (F := by k_asm) (B := by k_asm) (X := by k_asm) (T := by k_asm) (hk := by first | exact rfl | assumption) (N := ?N) (hd := ?hd) (hu := ?hu) (ret := ?_); (case hl => assumption); (case N => k_asm); (case h3 => assumption); (case h1 => k_mem); (case h2 => k_mem); (case hd => exact room_d (by with_reducible assumption) (by exact rfl) (by walk_at "n room")); (case hu => first | exact room_u 1 (by with_reducible assumption) (by exact rfl) (by walk_at "n room") | exact room_u (sz := 5) 1 (by with_reducible assumption) (by exact rfl) (by walk_at "n room") | ktr_units); intro _ _ _ _ _; (try dsimp only); k_sweep)) | (k_here; k_dflt (refine' Runs.useS (PTx.run ?P ?S) (F := by k_asm) (B := by k_asm) (X := by k_asm) (T := by k_asm) (hk := by first | exact rfl | assumption) (N := ?N) (hd := ?hd) (hu := ?hu) (ret := ?_); (case N => k_asm); (case P => assumption); (case S => exact fun p hp => by k_mem); (case hd => exact room_d (by with_reducible assumption) (by exact rfl) (by walk_at "n room")); (case hu => first | exact room_u _ (by with_reducible assumption) (by exact rfl) (by walk_at "n room") | exact room_u (sz := 5) _ (by with_reducible assumption) (by exact rfl) (by walk_at "n room") | ktr_units); intro _ _ _ _ _; (try dsimp only); k_sweep))) | ((with_reducible show wpAny _ _ (subscriptTail _ _ _ _) _ _ _); first | (k_here; k_dflt (refine' row_item ?N ?ma ?a ?b ?x ?_; (case N => k_asm); (case ma => k_mem); (case a => decide); (case b => decide); (case x => rfl); k_whole))) | ((with_reducible show wpAny _ _ (getAttr (Value.ref _) _ _) _ _ _); first | (k_here; k_dflt (refine' get_own ?k1 ?k2 ?k3 ?k4 ?k5 ?k6 ?k7 ?k8 ?k9 ?_; (case k1 => k_asm); (case k2 => k_asm); (case k3 => k_inst); (case k4 => k_is); (case k5 => k_is); (case k6 => k_is); (case k7 => k_is); (case k8 => assumption); (case k9 => first | rfl | assumption); k_whole))) | ((with_reducible show wpAny _ _ (getMethod (Value.ref _) _ _) _ _ _); first | (k_here; k_dflt (refine' method_inst ?F ?X ?I ?g ?f ?t ?l ?_; (case F => k_asm); (case X => k_asm); (case I => k_inst); (case g => k_is); (case f => k_is); (case t => k_is); (case l => assumption); k_whole))) | walk1 | (dsimp only; walk1) | (leave1; walk_say "STEP leave1"; try dsimp only) | fail "no step")
  exact hret _ _ _ _ ⟨rfl, _, rfl⟩ (by assumption) (News.t1 (News.t1 (by assumption)))
theorem bare_set1 (w : World) (sz : Nat) (news : Led) (nm x dx : Addr) (es : List DictEntry) (n : Nat) (to : Tok) (m1 : (x, instObj 389 dx) ∈ news) (m2 : (dx, dictOf es n) ∈ news) (e1 : getL (S "op") es = some (some (.str (S "set") to))) (l : Addr) (kn : Nat) (k1 : Value) (xa : Str) (m3 : (l, W.listOf [k1].toArray kn) ∈ news) (e3 : getL (S "kids") es = some (some (.ref l))) (P1 : PB w 274 sz news nm k1 xa) (ha : xa.length ≤ 100000) : Runs w (sz + 6) news 262 [.ref nm, .ref x] (TextPost news (S "{" ++ Txt.join (S ", ") [xa] ++ S "}")) := by
  have hlv := lv_s.2.2.2
  have hj := jlen1 (s := Str.ofString ", ") ha
  unfold Runs
  k_fill
  intro p loose mean mg mb dp un gd cn cs a ccd cl outer A₀ base h₀ L m s Q E B F X N T hk hd hu hret
  refine wpAny_call ?_
  k_dflt (refine' code_defC ?k1 ?k2 ?k3 ?k4 ?k5 ?kA ?kF ?kK ?k6 ?k7 ?k8 ?k9 ?kB ?kD ?_ ?c2 ?c3 ?c4; (case kA => exact rfl); (case kF => exact rfl); (case kK => first | exact rfl | assumption); (case k1 => k_asm); (case k2 => k_asm); (case k3 => k_asm); (case k4 => k_asm); (case k5 => k_asm); (case k6 => k_is); (case k7 => k_is); (case k8 => ktr_room); (case k9 => first | exact BindsTo.of_eq rfl | exact binds_K (by k_in) rfl (by k_is) rfl rfl rfl); (case kB => exact rfl); (case kD => decide +kernel); (case c2 => exact rfl); (case c3 => exact rfl); (case c4 => exact rfl); k_whole; intro _ _ _ _ _ _ _ N' Y' B' _ _ _; k_cells Y'; (try simp only [List.cons_append, List.nil_append] at N'); (try dsimp only); (try k_lift B'); (try k_fold))
  repeat' (first | (k_unfold; (try dsimp only)) | (k_end; wrow_close) | ((with_reducible show wpAny _ _ (call (Value.ref _) _ _) _ _ _); first | (k_here; k_dflt (refine' Runs.useS (const_int _ _ _ _ _ _ ?Ty ?h0 ?h1) (F := by k_asm) (B := by k_asm) (X := by k_asm) (T := by k_asm) (hk := by first | exact rfl | assumption) (N := ?N) (hd := ?hd) (hu := ?hu) (ret := ?_); (case N => k_asm); (case h0 => assumption); (case h1 => assumption); (case Ty => first | assumption | exact TypeO.mono (by assumption) (fun p hp => by k_mem)); (case hd => exact room_d (by with_reducible assumption) (by exact rfl) (by walk_at "n room")); (case hu => first | exact room_u 2 (by with_reducible assumption) (by exact rfl) (by walk_at "n room") | exact room_u (sz := 5) 2 (by with_reducible assumption) (by exact rfl) (by walk_at "n room") | ktr_units); intro _ _ _ _ _; (try dsimp only); k_sweep)) | (k_here; k_dflt (refine' Runs.useS (oname_ok _ _ _ _ _ ?O ?Ob) (F := by k_asm) (B := by k_asm) (X := by k_asm) (T := by k_asm) (hk := by first | exact rfl | assumption) (N := ?N) (hd := ?hd) (hu := ?hu) (ret := ?_); (case N => k_asm); (case O => first | assumption | exact NamesO.mono (by assumption) (fun p hp => by k_mem)); (case Ob => first | assumption | exact ObjO.mono (by assumption) (fun p hp => by k_mem)); (case hd => exact room_d (by with_reducible assumption) (by exact rfl) (by walk_at "n room")); (case hu => first | exact room_u 1 (by with_reducible assumption) (by exact rfl) (by walk_at "n room") | exact room_u (sz := 5) 1 (by with_reducible assumption) (by exact rfl) (by walk_at "n room") | ktr_units); intro _ _ _ _ _; (try dsimp only); k_sweep)) | (k_here; k_dflt (refine' Runs.useS (PB.run ?P ?S) (F := by k_asm) (B := by k_asm) (X := by k_asm) (T := by k_asm) (hk := by first | exact rfl | assumption) (N := ?N) (hd := ?hd) (hu := ?hu) (ret := ?_); (case N => k_asm); (case P => assumption); (case S => exact fun p hp => by k_mem); (case hd => exact room_d (by with_reducible assumption) (by exact rfl) (by walk_at "n room")); (case hu => first | exact room_u _ (by with_reducible assumption) (by exact rfl) (by walk_at "n room") | exact room_u (sz := 5) _ (by with_reducible assumption) (by exact rfl) (by walk_at "n room") | ktr_units); intro _ _ _ _ _; (try dsimp only); k_sweep)) | (k_here; k_dflt (refine' Runs.useI (level_is ?hl ?h1 ?h2 ?h3) (F := by k_asm) (B := by k_asm) (X := by k_asm) (T := by k_asm) (hk := by first | exact rfl | assumption) (N := ?N) (hd := ?hd) (hu := ?hu) (ret := ?_); (case hl => assumption); (case N => k_asm); (case h3 => assumption); (case h1 => k_mem); (case h2 => k_mem); (case hd => exact room_d (by with_reducible assumption) (by exact rfl) (by walk_at "n room")); (case hu => first | exact room_u 1 (by with_reducible assumption) (by exact rfl) (by walk_at "n room") | exact room_u (sz := 5) 1 (by with_reducible assumption) (by exact rfl) (by walk_at "n room") | ktr_units); intro _ _ _ _ _; (try dsimp only); k_sweep)) | (k_here; k_dflt (refine' Runs.useS (PTx.run ?P ?S) (F := by k_asm) (B := by k_asm) (X := by k_asm) (T := by k_asm) (hk := by first | exact rfl | assumption) (N := ?N) (hd := ?hd) (hu := ?hu) (ret := ?_); (case N => k_asm); (case P => assumption); (case S => exact fun p hp => by k_mem); (case hd => exact room_d (by with_reducible assumption) (by exact rfl) (by walk_at "n room")); (case hu => first | exact room_u _ (by with_reducible assumption) (by exact rfl) (by walk_at "n room") | exact room_u (sz := 5) _ (by with_reducible assumption) (by exact rfl) (by walk_at "n room") | ktr_units); intro _ _ _ _ _; (try dsimp only); k_sweep))) | ((with_reducible show wpAny _ _ (subscriptTail _ _ _ _) _ _ _); first | (k_here; k_dflt (refine' row_item ?N ?ma ?a ?b ?x ?_; (case N => k_asm); (case ma => k_mem); (case a => decide); (case b => decide); (case x => rfl); k_whole))) | ((with_reducible show wpAny _ _ (getAttr (Value.ref _) _ _) _ _ _); first | (k_here; k_dflt (refine' get_own ?k1 ?k2 ?k3 ?k4 ?k5 ?k6 ?k7 ?k8 ?k9 ?_; (case k1 => k_asm); (case k2 => k_asm); (case k3 => k_inst); (case k4 => k_is); (case k5 => k_is); (case k6 => k_is); (case k7 => k_is); (case k8 => assumption); (case k9 => first | rfl | assumption); k_whole))) | ((with_reducible show wpAny _ _ (getMethod (Value.ref _) _ _) _ _ _); first | (k_here; k_dflt (refine' method_inst ?F ?X ?I ?g ?f ?t ?l ?_; (case F => k_asm); (case X => k_asm); (case I => k_inst); (case g => k_is); (case f => k_is); (case t => k_is); (case l => assumption); k_whole))) | walk1 | (dsimp only; walk1) | (leave1; walk_say "STEP leave1"; try dsimp only) | fail "no step")
  exact hret _ _ _ _ ⟨rfl, _, rfl⟩ (by assumption) (News.t1 (News.t1 (by assumption)))
theorem bare_set2 (w : World) (sz : Nat) (news : Led) (nm x dx : Addr) (es : List DictEntry) (n : Nat) (to : Tok) (m1 : (x, instObj 389 dx) ∈ news) (m2 : (dx, dictOf es n) ∈ news) (e1 : getL (S "op") es = some (some (.str (S "set") to))) (l : Addr) (kn : Nat) (k1 k2 : Value) (xa xb : Str) (m3 : (l, W.listOf [k1, k2].toArray kn) ∈ news) (e3 : getL (S "kids") es = some (some (.ref l))) (P1 : PB w 274 sz news nm k1 xa) (P2 : PB w 274 sz news nm k2 xb) (ha : xa.length ≤ 100000) (hb : xb.length ≤ 100000) : Runs w (sz + 6) news 262 [.ref nm, .ref x] (TextPost news (S "{" ++ Txt.join (S ", ") [xa, xb] ++ S "}")) := by
  have hlv := lv_s.2.2.2
  have hj := jlen2 comma_len.1 ha hb
  unfold Runs
  k_fill
  intro p loose mean mg mb dp un gd cn cs a ccd cl outer A₀ base h₀ L m s Q E B F X N T hk hd hu hret
  refine wpAny_call ?_
  k_dflt (refine' code_defC ?k1 ?k2 ?k3 ?k4 ?k5 ?kA ?kF ?kK ?k6 ?k7 ?k8 ?k9 ?kB ?kD ?_ ?c2 ?c3 ?c4; (case kA => exact rfl); (case kF => exact rfl); (case kK => first | exact rfl | assumption); (case k1 => k_asm); (case k2 => k_asm); (case k3 => k_asm); (case k4 => k_asm); (case k5 => k_asm); (case k6 => k_is); (case k7 => k_is); (case k8 => ktr_room); (case k9 => first | exact BindsTo.of_eq rfl | exact binds_K (by k_in) rfl (by k_is) rfl rfl rfl); (case kB => exact rfl); (case kD => decide +kernel); (case c2 => exact rfl); (case c3 => exact rfl); (case c4 => exact rfl); k_whole; intro _ _ _ _ _ _ _ N' Y' B' _ _ _; k_cells Y'; (try simp only [List.cons_append, List.nil_append] at N'); (try dsimp only); (try k_lift B'); (try k_fold))
  repeat' (first | (k_unfold; (try dsimp only)) | (k_end; wrow_close) | ((with_reducible show wpAny _ _ (call (Value.ref _) _ _) _ _ _); first | (k_here; k_dflt (refine' Runs.useS (const_int _ _ _ _ _ _ ?Ty ?h0 ?h1) (F := by k_asm) (B := by k_asm) (X := by k_asm) (T := by k_asm) (hk := by first | exact rfl | assumption) (N := ?N) (hd := ?hd) (hu := ?hu) (ret := ?_); (case N => k_asm); (case h0 => assumption); (case h1 => assumption); (case Ty => first | assumption | exact TypeO.mono (by assumption) (fun p hp => by k_mem)); (case hd => exact room_d (by with_reducible assumption) (by exact rfl) (by walk_at "n room")); (case hu => first | exact room_u 2 (by with_reducible assumption) (by exact rfl) (by walk_at "n room") | exact room_u (sz := 5) 2 (by with_reducible assumption) (by exact rfl) (by walk_at "n room") | ktr_units); intro _ _ _ _ _; (try dsimp only); k_sweep)) | (k_here; k_dflt (refine' Runs.useS (oname_ok _ _ _ _ _ ?O ?Ob) (F := by k_asm) (B := by k_asm) (X := by k_asm) (T := by k_asm) (hk := by first | exact rfl | assumption) (N := ?N) (hd := ?hd) (hu := ?hu) (ret := ?_); (case N => k_asm); (case O => first | assumption | exact NamesO.mono (by assumption) (fun p hp => by k_mem)); (case Ob => first | assumption | exact ObjO.mono (by assumption) (fun p hp => by k_mem)); (case hd => exact room_d (by with_reducible assumption) (by exact rfl) (by walk_at "n room")); (case hu => first | exact room_u 1 (by with_reducible assumption) (by exact rfl) (by walk_at "n room") | exact room_u (sz := 5) 1 (by with_reducible assumption) (by exact rfl) (by walk_at "n room") | ktr_units); intro _ _ _ _ _; (try dsimp only); k_sweep)) | (k_here; k_dflt (refine' Runs.useS (PB.run ?P ?S) (F := by k_asm) (B := by k_asm) (X := by k_asm) (T := by k_asm) (hk := by first | exact rfl | assumption) (N := ?N) (hd := ?hd) (hu := ?hu) (ret := ?_); (case N => k_asm); (case P => assumption); (case S => exact fun p hp => by k_mem); (case hd => exact room_d (by with_reducible assumption) (by exact rfl) (by walk_at "n room")); (case hu => first | exact room_u _ (by with_reducible assumption) (by exact rfl) (by walk_at "n room") | exact room_u (sz := 5) _ (by with_reducible assumption) (by exact rfl) (by walk_at "n room") | ktr_units); intro _ _ _ _ _; (try dsimp only); k_sweep)) | (k_here; k_dflt (refine' Runs.useI (level_is ?hl ?h1 ?h2 ?h3) (F := by k_asm) (B := by k_asm) (X := by k_asm) (T := by k_asm) (hk := by first | exact rfl | assumption) (N := ?N) (hd := ?hd) (hu := ?hu) (ret := ?_); (case hl => assumption); (case N => k_asm); (case h3 => assumption); (case h1 => k_mem); (case h2 => k_mem); (case hd => exact room_d (by with_reducible assumption) (by exact rfl) (by walk_at "n room")); (case hu => first | exact room_u 1 (by with_reducible assumption) (by exact rfl) (by walk_at "n room") | exact room_u (sz := 5) 1 (by with_reducible assumption) (by exact rfl) (by walk_at "n room") | ktr_units); intro _ _ _ _ _; (try dsimp only); k_sweep)) | (k_here; k_dflt (refine' Runs.useS (PTx.run ?P ?S) (F := by k_asm) (B := by k_asm) (X := by k_asm) (T := by k_asm) (hk := by first | exact rfl | assumption) (N := ?N) (hd := ?hd) (hu := ?hu) (ret := ?_); (case N => k_asm); (case P => assumption); (case S => exact fun p hp => by k_mem); (case hd => exact room_d (by with_reducible assumption) (by exact rfl) (by walk_at "n room")); (case hu => first | exact room_u _ (by with_reducible assumption) (by exact rfl) (by walk_at "n room") | exact room_u (sz := 5) _ (by with_reducible assumption) (by exact rfl) (by walk_at "n room") | ktr_units); intro _ _ _ _ _; (try dsimp only); k_sweep))) | ((with_reducible show wpAny _ _ (subscriptTail _ _ _ _) _ _ _); first | (k_here; k_dflt (refine' row_item ?N ?ma ?a ?b ?x ?_; (case N => k_asm); (case ma => k_mem); (case a => decide); (case b => decide); (case x => rfl); k_whole))) | ((with_reducible show wpAny _ _ (getAttr (Value.ref _) _ _) _ _ _); first | (k_here; k_dflt (refine' get_own ?k1 ?k2 ?k3 ?k4 ?k5 ?k6 ?k7 ?k8 ?k9 ?_; (case k1 => k_asm); (case k2 => k_asm); (case k3 => k_inst); (case k4 => k_is); (case k5 => k_is); (case k6 => k_is); (case k7 => k_is); (case k8 => assumption); (case k9 => first | rfl | assumption); k_whole))) | ((with_reducible show wpAny _ _ (getMethod (Value.ref _) _ _) _ _ _); first | (k_here; k_dflt (refine' method_inst ?F ?X ?I ?g ?f ?t ?l ?_; (case F => k_asm); (case X => k_asm); (case I => k_inst); (case g => k_is); (case f => k_is); (case t => k_is); (case l => assumption); k_whole))) | walk1 | (dsimp only; walk1) | (leave1; walk_say "STEP leave1"; try dsimp only) | fail "no step")
  exact hret _ _ _ _ ⟨rfl, _, rfl⟩ (by assumption) (News.t1 (News.t1 (by assumption)))
theorem elem1 (w : World) (sz : Nat) (news : Led) (nm x dx : Addr) (es : List DictEntry) (n : Nat) (to : Tok) (m1 : (x, instObj 389 dx) ∈ news) (m2 : (dx, dictOf es n) ∈ news) (e1 : getL (S "op") es = some (some (.str (S "single") to))) (l : Addr) (kn : Nat) (k1 : Value) (xa : Str) (m3 : (l, W.listOf [k1].toArray kn) ∈ news) (e3 : getL (S "kids") es = some (some (.ref l))) (P1 : PB w 236 sz news nm k1 xa) (ha : xa.length ≤ 100000) : Runs w (sz + 3) news 274 [.ref nm, .ref x] (TextPost news (Txt.join (S "..") [xa])) := by
  unfold Runs
  k_fill
  intro p loose mean mg mb dp un gd cn cs a ccd cl outer A₀ base h₀ L m s Q E B F X N T hk hd hu hret
  refine wpAny_call ?_
  k_dflt (refine' code_defC ?k1 ?k2 ?k3 ?k4 ?k5 ?kA ?kF ?kK ?k6 ?k7 ?k8 ?k9 ?kB ?kD ?_ ?c2 ?c3 ?c4; (case kA => exact rfl); (case kF => exact rfl); (case kK => first | exact rfl | assumption); (case k1 => k_asm); (case k2 => k_asm); (case k3 => k_asm); (case k4 => k_asm); (case k5 => k_asm); (case k6 => k_is); (case k7 => k_is); (case k8 => ktr_room); (case k9 => first | exact BindsTo.of_eq rfl | exact binds_K (by k_in) rfl (by k_is) rfl rfl rfl); (case kB => exact rfl); (case kD => decide +kernel); (case c2 => exact rfl); (case c3 => exact rfl); (case c4 => exact rfl); k_whole; intro _ _ _ _ _ _ _ N' Y' B' _ _ _; k_cells Y'; (try simp only [List.cons_append, List.nil_append] at N'); (try dsimp only); (try k_lift B'); (try k_fold))
  repeat' (first | (k_unfold; (try dsimp only)) | (k_end; wrow_close) | ((with_reducible show wpAny _ _ (call (Value.ref _) _ _) _ _ _); first | (k_here; k_dflt (refine' Runs.useS (const_int _ _ _ _ _ _ ?Ty ?h0 ?h1) (F := by k_asm) (B := by k_asm) (X := by k_asm) (T := by k_asm) (hk := by first | exact rfl | assumption) (N := ?N) (hd := ?hd) (hu := ?hu) (ret := ?_); (case N => k_asm); (case h0 => assumption); (case h1 => assumption); (case Ty => first | assumption | exact TypeO.mono (by assumption) (fun p hp => by k_mem)); (case hd => exact room_d (by with_reducible assumption) (by exact rfl) (by walk_at "n room")); (case hu => first | exact room_u 2 (by with_reducible assumption) (by exact rfl) (by walk_at "n room") | exact room_u (sz := 5) 2 (by with_reducible assumption) (by exact rfl) (by walk_at "n room") | ktr_units); intro _ _ _ _ _; (try dsimp only); k_sweep)) | (k_here; k_dflt (refine' Runs.useS (oname_ok _ _ _ _ _ ?O ?Ob) (F := by k_asm) (B := by k_asm) (X := by k_asm) (T := by k_asm) (hk := by first | exact rfl | assumption) (N := ?N) (hd := ?hd) (hu := ?hu) (ret := ?_); (case N => k_asm); (case O => first | assumption | exact NamesO.mono (by assumption) (fun p hp => by k_mem)); (case Ob => first | assumption | exact ObjO.mono (by assumption) (fun p hp => by k_mem)); (case hd => exact room_d (by with_reducible assumption) (by exact rfl) (by walk_at "n room")); (case hu => first | exact room_u 1 (by with_reducible assumption) (by exact rfl) (by walk_at "n room") | exact room_u (sz := 5) 1 (by with_reducible assumption) (by exact rfl) (by walk_at "n room") | ktr_units); intro _ _ _ _ _; (try dsimp only); k_sweep)) | (k_here; k_dflt (refine' Runs.useS (PB.run ?P ?S) (F := by k_asm) (B := by k_asm) (X := by k_asm) (T := by k_asm) (hk := by first | exact rfl | assumption) (N := ?N) (hd := ?hd) (hu := ?hu) (ret := ?_); (case N => k_asm); (case P => assumption); (case S => exact fun p hp => by k_mem); (case hd => exact room_d (by with_reducible assumption) (by exact rfl) (by walk_at "n room")); (case hu => first | exact room_u _ (by with_reducible assumption) (by exact rfl) (by walk_at "n room") | exact room_u (sz := 5) _ (by with_reducible assumption) (by exact rfl) (by walk_at "n room") | ktr_units); intro _ _ _ _ _; (try dsimp only); k_sweep)) | (k_here; k_dflt (refine' Runs.useI (level_is ?hl ?h1 ?h2 ?h3) (F := by k_asm) (B := by k_asm) (X := by k_asm) (T := by k_asm) (hk := by first | exact rfl | assumption) (N := ?N) (hd := ?hd) (hu := ?hu) (ret := ?_); (case hl => assumption); (case N => k_asm); (case h3 => assumption); (case h1 => k_mem); (case h2 => k_mem); (case hd => exact room_d (by with_reducible assumption) (by exact rfl) (by walk_at "n room")); (case hu => first | exact room_u 1 (by with_reducible assumption) (by exact rfl) (by walk_at "n room") | exact room_u (sz := 5) 1 (by with_reducible assumption) (by exact rfl) (by walk_at "n room") | ktr_units); intro _ _ _ _ _; (try dsimp only); k_sweep)) | (k_here; k_dflt (refine' Runs.useS (PTx.run ?P ?S) (F := by k_asm) (B := by k_asm) (X := by k_asm) (T := by k_asm) (hk := by first | exact rfl | assumption) (N := ?N) (hd := ?hd) (hu := ?hu) (ret := ?_); (case N => k_asm); (case P => assumption); (case S => exact fun p hp => by k_mem); (case hd => exact room_d (by with_reducible assumption) (by exact rfl) (by walk_at "n room")); (case hu => first | exact room_u _ (by with_reducible assumption) (by exact rfl) (by walk_at "n room") | exact room_u (sz := 5) _ (by with_reducible assumption) (by exact rfl) (by walk_at "n room") | ktr_units); intro _ _ _ _ _; (try dsimp only); k_sweep))) | ((with_reducible show wpAny _ _ (subscriptTail _ _ _ _) _ _ _); first | (k_here; k_dflt (refine' row_item ?N ?ma ?a ?b ?x ?_; (case N => k_asm); (case ma => k_mem); (case a => decide); (case b => decide); (case x => rfl); k_whole))) | ((with_reducible show wpAny _ _ (getAttr (Value.ref _) _ _) _ _ _); first | (k_here; k_dflt (refine' get_own ?k1 ?k2 ?k3 ?k4 ?k5 ?k6 ?k7 ?k8 ?k9 ?_; (case k1 => k_asm); (case k2 => k_asm); (case k3 => k_inst); (case k4 => k_is); (case k5 => k_is); (case k6 => k_is); (case k7 => k_is); (case k8 => assumption); (case k9 => first | rfl | assumption); k_whole))) | ((with_reducible show wpAny _ _ (getMethod (Value.ref _) _ _) _ _ _); first | (k_here; k_dflt (refine' method_inst ?F ?X ?I ?g ?f ?t ?l ?_; (case F => k_asm); (case X => k_asm); (case I => k_inst); (case g => k_is); (case f => k_is); (case t => k_is); (case l => assumption); k_whole))) | walk1 | (dsimp only; walk1) | (leave1; walk_say "STEP leave1"; try dsimp only) | fail "no step")
  exact hret _ _ _ _ ⟨rfl, _, rfl⟩ (by assumption) (News.t1 (News.t1 (by assumption)))
theorem elem2 (w : World) (sz : Nat) (news : Led) (nm x dx : Addr) (es : List DictEntry) (n : Nat) (to : Tok) (m1 : (x, instObj 389 dx) ∈ news) (m2 : (dx, dictOf es n) ∈ news) (e1 : getL (S "op") es = some (some (.str (S "range") to))) (l : Addr) (kn : Nat) (k1 k2 : Value) (xa xb : Str) (m3 : (l, W.listOf [k1, k2].toArray kn) ∈ news) (e3 : getL (S "kids") es = some (some (.ref l))) (P1 : PB w 236 sz news nm k1 xa) (P2 : PB w 236 sz news nm k2 xb) (ha : xa.length ≤ 100000) (hb : xb.length ≤ 100000) : Runs w (sz + 3) news 274 [.ref nm, .ref x] (TextPost news (Txt.join (S "..") [xa, xb])) := by
  unfold Runs
  k_fill
  intro p loose mean mg mb dp un gd cn cs a ccd cl outer A₀ base h₀ L m s Q E B F X N T hk hd hu hret
  refine wpAny_call ?_
  k_dflt (refine' code_defC ?k1 ?k2 ?k3 ?k4 ?k5 ?kA ?kF ?kK ?k6 ?k7 ?k8 ?k9 ?kB ?kD ?_ ?c2 ?c3 ?c4; (case kA => exact rfl); (case kF => exact rfl); (case kK => first | exact rfl | assumption); (case k1 => k_asm); (case k2 => k_asm); (case k3 => k_asm); (case k4 => k_asm); (case k5 => k_asm); (case k6 => k_is); (case k7 => k_is); (case k8 => ktr_room); (case k9 => first | exact BindsTo.of_eq rfl | exact binds_K (by k_in) rfl (by k_is) rfl rfl rfl); (case kB => exact rfl); (case kD => decide +kernel); (case c2 => exact rfl); (case c3 => exact rfl); (case c4 => exact rfl); k_whole; intro _ _ _ _ _ _ _ N' Y' B' _ _ _; k_cells Y'; (try simp only [List.cons_append, List.nil_append] at N'); (try dsimp only); (try k_lift B'); (try k_fold))
  repeat' (first | (k_unfold; (try dsimp only)) | (k_end; wrow_close) | ((with_reducible show wpAny _ _ (call (Value.ref _) _ _) _ _ _); first | (k_here; k_dflt (refine' Runs.useS (const_int _ _ _ _ _ _ ?Ty ?h0 ?h1) (F := by k_asm) (B := by k_asm) (X := by k_asm) (T := by k_asm) (hk := by first | exact rfl | assumption) (N := ?N) (hd := ?hd) (hu := ?hu) (ret := ?_); (case N => k_asm); (case h0 => assumption); (case h1 => assumption); (case Ty => first | assumption | exact TypeO.mono (by assumption) (fun p hp => by k_mem)); (case hd => exact room_d (by with_reducible assumption) (by exact rfl) (by walk_at "n room")); (case hu => first | exact room_u 2 (by with_reducible assumption) (by exact rfl) (by walk_at "n room") | exact room_u (sz := 5) 2 (by with_reducible assumption) (by exact rfl) (by walk_at "n room") | ktr_units); intro _ _ _ _ _; (try dsimp only); k_sweep)) | (k_here; k_dflt (refine' Runs.useS (oname_ok _ _ _ _ _ ?O ?Ob) (F := by k_asm) (B := by k_asm) (X := by k_asm) (T := by k_asm) (hk := by first | exact rfl | assumption) (N := ?N) (hd := ?hd) (hu := ?hu) (ret := ?_); (case N => k_asm); (case O => first | assumption | exact NamesO.mono (by assumption) (fun p hp => by k_mem)); (case Ob => first | assumption | exact ObjO.mono (by assumption) (fun p hp => by k_mem)); (case hd => exact room_d (by with_reducible assumption) (by exact rfl) (by walk_at "n room")); (case hu => first | exact room_u 1 (by with_reducible assumption) (by exact rfl) (by walk_at "n room") | exact room_u (sz := 5) 1 (by with_reducible assumption) (by exact rfl) (by walk_at "n room") | ktr_units); intro _ _ _ _ _; (try dsimp only); k_sweep)) | (k_here; k_dflt (refine' Runs.useS (PB.run ?P ?S) (F := by k_asm) (B := by k_asm) (X := by k_asm) (T := by k_asm) (hk := by first | exact rfl | assumption) (N := ?N) (hd := ?hd) (hu := ?hu) (ret := ?_); (case N => k_asm); (case P => assumption); (case S => exact fun p hp => by k_mem); (case hd => exact room_d (by with_reducible assumption) (by exact rfl) (by walk_at "n room")); (case hu => first | exact room_u _ (by with_reducible assumption) (by exact rfl) (by walk_at "n room") | exact room_u (sz := 5) _ (by with_reducible assumption) (by exact rfl) (by walk_at "n room") | ktr_units); intro _ _ _ _ _; (try dsimp only); k_sweep)) | (k_here; k_dflt (refine' Runs.useI (level_is ?hl ?h1 ?h2 ?h3) (F := by k_asm) (B := by k_asm) (X := by k_asm) (T := by k_asm) (hk := by first | exact rfl | assumption) (N := ?N) (hd := ?hd) (hu := ?hu) (ret := ?_); (case hl => assumption); (case N => k_asm); (case h3 => assumption); (case h1 => k_mem); (case h2 => k_mem); (case hd => exact room_d (by with_reducible assumption) (by exact rfl) (by walk_at "n room")); (case hu => first | exact room_u 1 (by with_reducible assumption) (by exact rfl) (by walk_at "n room") | exact room_u (sz := 5) 1 (by with_reducible assumption) (by exact rfl) (by walk_at "n room") | ktr_units); intro _ _ _ _ _; (try dsimp only); k_sweep)) | (k_here; k_dflt (refine' Runs.useS (PTx.run ?P ?S) (F := by k_asm) (B := by k_asm) (X := by k_asm) (T := by k_asm) (hk := by first | exact rfl | assumption) (N := ?N) (hd := ?hd) (hu := ?hu) (ret := ?_); (case N => k_asm); (case P => assumption); (case S => exact fun p hp => by k_mem); (case hd => exact room_d (by with_reducible assumption) (by exact rfl) (by walk_at "n room")); (case hu => first | exact room_u _ (by with_reducible assumption) (by exact rfl) (by walk_at "n room") | exact room_u (sz := 5) _ (by with_reducible assumption) (by exact rfl) (by walk_at "n room") | ktr_units); intro _ _ _ _ _; (try dsimp only); k_sweep))) | ((with_reducible show wpAny _ _ (subscriptTail _ _ _ _) _ _ _); first | (k_here; k_dflt (refine' row_item ?N ?ma ?a ?b ?x ?_; (case N => k_asm); (case ma => k_mem); (case a => decide); (case b => decide); (case x => rfl); k_whole))) | ((with_reducible show wpAny _ _ (getAttr (Value.ref _) _ _) _ _ _); first | (k_here; k_dflt (refine' get_own ?k1 ?k2 ?k3 ?k4 ?k5 ?k6 ?k7 ?k8 ?k9 ?_; (case k1 => k_asm); (case k2 => k_asm); (case k3 => k_inst); (case k4 => k_is); (case k5 => k_is); (case k6 => k_is); (case k7 => k_is); (case k8 => assumption); (case k9 => first | rfl | assumption); k_whole))) | ((with_reducible show wpAny _ _ (getMethod (Value.ref _) _ _) _ _ _); first | (k_here; k_dflt (refine' method_inst ?F ?X ?I ?g ?f ?t ?l ?_; (case F => k_asm); (case X => k_asm); (case I => k_inst); (case g => k_is); (case f => k_is); (case t => k_is); (case l => assumption); k_whole))) | walk1 | (dsimp only; walk1) | (leave1; walk_say "STEP leave1"; try dsimp only) | fail "no step")
  exact hret _ _ _ _ ⟨rfl, _, rfl⟩ (by assumption) (News.t1 (News.t1 (by assumption)))
end
end T_N7
end G_N0
section T_N8
noncomputable def parS (b : Bool) (x : Str) : Str := if b then S "(" ++ x ++ S ")" else x
noncomputable def Tm.tx : Tm → Nat → Str
  | .leaf x, _ => x
  | .neg a, l => parS (decide (2 < l)) (S "-" ++ a.tx 3)
  | .nt a, _ => S "~" ++ a.tx 4
  | .bin o a b, l => parS (decide (bl o < l)) (a.tx (loL o) ++ S " " ++ o ++ S " " ++ b.tx (hiL o))
  | .set0, _ => S "{" ++ S "" ++ S "}"
  | .set1 p, _ => S "{" ++ p.tx 0 ++ S "}"
  | .set2 p q, _ => S "{" ++ (p.tx 0 ++ S ", " ++ q.tx 0) ++ S "}"
  | .one a, _ => a.tx 1
  | .rng a b, _ => a.tx 1 ++ S ".." ++ b.tx 1
noncomputable def Tm.dep : Tm → Nat
  | .leaf _ => 0
  | .neg a => a.dep + 1
  | .nt a => a.dep + 1
  | .bin _ a b => max a.dep b.dep + 1
  | .set0 => 0
  | .set1 p => p.dep + 1
  | .set2 p q => max p.dep q.dep + 1
  | .one a => a.dep + 1
  | .rng a b => max a.dep b.dep + 1
noncomputable def Tm.sz : Tm → Nat
  | .leaf _ => 1
  | .neg a => a.sz + 1
  | .nt a => a.sz + 1
  | .bin _ a b => a.sz + b.sz + 1
  | .set0 => 1
  | .set1 p => p.sz + 1
  | .set2 p q => p.sz + q.sz + 1
  | .one a => a.sz + 1
  | .rng a b => a.sz + b.sz + 1
/-- its words are short and of letters and figures alone -/
noncomputable def Tm.Good : Tm → Prop
  | .leaf x => 1 ≤ x.length ∧ x.length ≤ 10 ∧ x.cps.all Unicode.isAlnum = true ∧ PyData.strOk x = true
  | .neg a => a.Good
  | .nt a => a.Good
  | .bin o a b => (∃ op, (op, o) ∈ binTab) ∧ a.Good ∧ b.Good
  | .set0 => True
  | .set1 p => p.Good
  | .set2 p q => p.Good ∧ q.Good
  | .one a => a.Good
  | .rng a b => a.Good ∧ b.Good
theorem tab_len : ∀ p ∈ binTab, p.2.length ≤ 10 ∧ 1 ≤ p.1.length ∧ p.1.length ≤ 10 := by decide +kernel
theorem lits_len : (S "(").length = 1 ∧ (S ")").length = 1 ∧ (S " ").length = 1 ∧ (S "-").length = 1 ∧ (S "~").length = 1 ∧ (S "{").length = 1 ∧ (S "}").length = 1 ∧ (S ", ").length = 2 ∧ (S "..").length = 2 ∧ (S "").length = 0 := by decide +kernel
theorem tx_len : ∀ (T : Tm) (l : Nat), T.Good → (T.tx l).length ≤ 20 * T.sz := by
  obtain ⟨k1, k2, k3, k4, k5, k6, k7, k8, k9, k10⟩ := lits_len
  -- a text of at most c literal signs and texts of 20 * n signs together
  have A {a b : Str} {x y n m : Nat} (ha : a.length ≤ x + 20 * n) (hb : b.length ≤ y + 20 * m) : (a ++ b).length ≤ (x + y) + 20 * (n + m) := by
    rw [Str.length_append, Nat.mul_add, Nat.add_assoc, Nat.add_left_comm y, ← Nat.add_assoc]; exact Nat.add_le_add ha hb
  have P (b : Bool) {x : Str} {c n : Nat} (h : x.length ≤ c + 20 * n) : (parS b x).length ≤ (c + 2) + 20 * n := by
    cases b with
    | false => exact Nat.le_trans h (Nat.add_le_add_right (Nat.le_add_right _ _) _)
    | true =>
      have q := A (n := 0) (m := 0) (A (n := 0) (Nat.le_of_eq k1) h) (Nat.le_of_eq k2)
      rw [Nat.zero_add, Nat.add_zero, Nat.add_comm 1 c] at q; exact Nat.add_right_comm (c + 1) (20 * n) 1 ▸ q
  have L {a : Str} {n : Nat} (h : a.length ≤ 20 * n) : a.length ≤ 0 + 20 * n := by rw [Nat.zero_add]; exact h
  have F {c n : Nat} {x : Nat} (q : x ≤ c + 20 * n) (h : c ≤ 20) : x ≤ 20 * (n + 1) := Nat.le_trans q (by rw [Nat.add_comm]; exact Nat.add_le_add_left h _)
  intro T
  induction T with
  | leaf x => exact fun l g => Nat.le_trans g.2.1 (show 10 ≤ 20 * 1 by decide)
  | neg a ih => exact fun l g => by have q := P (decide (2 < l)) (A (n := 0) (Nat.le_of_eq k4) (L (ih 3 g))); rw [Nat.zero_add] at q; exact F q (by decide)
  | nt a ih => exact fun l g => by have q := A (n := 0) (Nat.le_of_eq k5) (L (ih 4 g)); rw [Nat.zero_add] at q; exact F q (by decide)
  | bin o a b i1 i2 =>
    intro l g
    obtain ⟨⟨op, ho⟩, ga, gb⟩ := g
    have q := P (decide (bl o < l)) (A (A (m := 0) (A (m := 0) (A (m := 0) (L (i1 (loL o) ga)) (Nat.le_of_eq k3)) (tab_len _ ho).1) (Nat.le_of_eq k3)) (L (i2 (hiL o) gb)))
    exact F q (by decide)
  | set0 => exact fun l g => by have q := A (n := 0) (m := 0) (A (n := 0) (m := 0) (Nat.le_of_eq k6) (Nat.le_of_eq k10)) (Nat.le_of_eq k7); exact Nat.le_trans q (by decide)
  | set1 p ih => exact fun l g => by have q := A (m := 0) (A (n := 0) (Nat.le_of_eq k6) (L (ih 0 g))) (Nat.le_of_eq k7); rw [Nat.zero_add] at q; exact F q (by decide)
  | set2 p r i1 i2 => exact fun l g => by have q := A (m := 0) (A (n := 0) (Nat.le_of_eq k6) (A (A (m := 0) (L (i1 0 g.1)) (Nat.le_of_eq k8)) (L (i2 0 g.2)))) (Nat.le_of_eq k7); rw [Nat.zero_add (p.sz + 0 + r.sz)] at q; exact F q (by decide)
  | one a ih => exact fun l g => Nat.le_trans (ih 1 g) (Nat.le_add_right _ _)
  | rng a b i1 i2 => exact fun l g => F (A (A (m := 0) (L (i1 1 g.1)) (Nat.le_of_eq k9)) (L (i2 1 g.2))) (by decide)
theorem tab_facts : ∀ p ∈ binTab, levelOp p.1 = (bl p.2 : Int) ∧ cutOp p.1 = p.2 ∧ (p.1 == S "neg") = false ∧ (p.1 == S "s~") = false ∧ (p.1 == S "IS") = false ∧
    ((bl p.2 = 1 ∧ loL p.2 = 2 ∧ hiL p.2 = 2) ∨ (bl p.2 = 2 ∧ loL p.2 = 2 ∧ hiL p.2 = 3) ∨ (bl p.2 = 3 ∧ loL p.2 = 3 ∧ hiL p.2 = 4)) := by decide +kernel
theorem lv_neg : levelOp (S "neg") = 2 ∧ levelOp (S "s~") = 2 := by decide +kernel
theorem Runs.mono {w : World} {sz sz' : Nat} {news : Led} {f : Addr} {vs : List Value} {Post : Value → Led → Prop} (h : sz ≤ sz') (R : Runs w sz news f vs Post) : Runs w sz' news f vs Post := by
  intro p loose mean mg mb dp un gd cn cs a ccd cl outer A₀ base h₀ L m s Q E B F X N T hk hd hu hret
  exact R p loose mean mg mb dp un gd cn cs a ccd cl outer A₀ base h₀ L m s Q E B F X N T hk (Nat.lt_of_le_of_lt (Nat.add_le_add_left h _) hd) (Nat.lt_of_le_of_lt (Nat.add_le_add_right (Nat.add_le_add_left (Nat.mul_le_mul_left 8 h) _) _) hu) hret
/-- what expr_text makes of a node, at each level and without one; what element_text makes of a piece -/
structure Prints (w : World) (T : Tm) : Prop where
  ex : T.Wf false → ∀ (news : Led) (nm : Addr) (v : Value) (l : Nat) (t : Tok), NamesO w news (.ref nm) → Nd news v T → l ≤ 4 → Runs w (8 * T.dep + 10) news 236 [.ref nm, v, .int l t] (TextPost news (T.tx l))
  ex1 : T.Wf false → ∀ (news : Led) (nm : Addr) (v : Value), NamesO w news (.ref nm) → Nd news v T → Runs w (8 * T.dep + 10) news 236 [.ref nm, v] (TextPost news (T.tx 1))
  el : T.Wf true → ∀ (news : Led) (nm : Addr) (v : Value), NamesO w news (.ref nm) → Nd news v T → Runs w (8 * T.dep + 10) news 274 [.ref nm, v] (TextPost news (T.tx 0))
theorem Prints.ptx {w : World} {T : Tm} (P : Prints w T) (wf : T.Wf false) {news : Led} {nm : Addr} {v : Value} (l : Nat) (Nm : NamesO w news (.ref nm)) (N : Nd news v T) (hl : l ≤ 4) : PTx w (8 * T.dep + 10) news nm v l (T.tx l) :=
  fun t news' S => P.ex wf news' nm v l t (Nm.mono S) (Nd.mono S N) hl
theorem PTx.up {w : World} {sz sz' : Nat} {news : Led} {nm : Addr} {v : Value} {l : Int} {x : Str} (P : PTx w sz news nm v l x) (h : sz ≤ sz') : PTx w sz' news nm v l x := fun t news' S => (P t news' S).mono h
theorem PB.up {w : World} {f : Addr} {sz sz' : Nat} {news : Led} {nm : Addr} {v : Value} {x : Str} (P : PB w f sz news nm v x) (h : sz ≤ sz') : PB w f sz' news nm v x := fun news' S => (P news' S).mono h
end T_N8
section T_N9
theorem bl_ok (o : Str) : 1 ≤ bl o ∧ bl o ≤ 3 := by unfold bl; generalize cls o = k; cases k <;> decide
theorem bl_le (o : Str) : bl o ≤ 3 := (bl_ok o).2
theorem lv_neg2 {op : Str} (ho : op = S "neg" ∨ op = S "s~") : levelOp op = 2 := by rcases ho with rfl | rfl; exact lv_neg.1; exact lv_neg.2
theorem parS_if {p : Prop} [Decidable p] (x : Str) : parS (decide p) x = if p then S "(" ++ x ++ S ")" else x := by
  by_cases h : p
  · rw [decide_eq_true h, if_pos h]; rfl
  · rw [decide_eq_false h, if_neg h]; rfl
theorem parS_0 (n : Nat) (x : Str) : parS (decide (n < 0)) x = x := by rw [decide_eq_false (Nat.not_lt_zero n)]; rfl
theorem tx_parN (T : Tm) (l : Nat) (wf : T.Wf false) (hl : l ≤ 4) : T.tx l = if T.lev < l then S "(" ++ T.tx 0 ++ S ")" else T.tx 0 := by
  have four : ∀ x : Str, x = if 4 < l then S "(" ++ x ++ S ")" else x := fun x => (if_neg (Nat.not_lt.mpr hl)).symm
  cases T with
  | neg a =>
    show parS (decide (2 < l)) _ = if 2 < l then S "(" ++ parS (decide (2 < 0)) _ ++ S ")" else parS (decide (2 < 0)) _
    rw [parS_0]; exact parS_if _
  | bin o a b =>
    show parS (decide (bl o < l)) _ = if bl o < l then S "(" ++ parS (decide (bl o < 0)) _ ++ S ")" else parS (decide (bl o < 0)) _
    rw [parS_0]; exact parS_if _
  | one a => exact wf.elim
  | rng a b => exact wf.elim
  | _ => exact four _
theorem tx_par (T : Tm) (l : Nat) (wf : T.Wf false) (hl : l ≤ 4) : T.tx l = if (T.lev : Int) < (l : Int) then S "(" ++ T.tx 0 ++ S ")" else T.tx 0 := by
  rw [tx_parN T l wf hl]
  by_cases h : T.lev < l
  · rw [if_pos h, if_pos (Int.ofNat_lt.mpr h)]
  · rw [if_neg h, if_neg (fun q => h (Int.ofNat_lt.mp q))]
inductive Bears (T : Tm) (news : Led) (v : Value) : Prop
  | mk (x : Addr) (dx : Addr) (es : List DictEntry) (n : Nat) (op : Str) (to : Tok) : v = .ref x → (x, instObj 389 dx) ∈ news → (dx, dictOf es n) ∈ news → getL (S "op") es = some (some (.str op to)) → levelOp op = (T.lev : Int) → Bears T news v
theorem bears_of {T : Tm} {news : Led} {v ty val : Value} {op : Str} {ks : List Value} (O : NodeO news v op ty ks val) (h : levelOp op = (T.lev : Int)) : Bears T news v := by
  obtain ⟨x, dx, l, es, n, kn, to, e, m1, m2, m3, e1, r⟩ := O; exact ⟨x, dx, es, n, _, to, e, m1, m2, e1, h⟩
theorem nd_bears {T : Tm} {news : Led} {v : Value} (wf : T.Wf false) (N : Nd news v T) : Bears T news v := by
  cases T with
  | leaf x =>
    obtain ⟨_, _, O, _⟩ | ⟨_, _, _, O, _⟩ | ⟨_, _, _, O, _⟩ := N
    · exact bears_of O lv_s.1
    · exact bears_of O lv_s.2.1
    · exact bears_of O lv_s.2.1
  | neg a => obtain ⟨_, _, _, O, ho, _⟩ := N; exact bears_of O (lv_neg2 ho)
  | nt a => obtain ⟨_, _, O, _⟩ := N; exact bears_of O lv_s.2.2.1
  | bin o a b => obtain ⟨_, _, _, _, O, ho, _⟩ := N; exact bears_of O (tab_facts _ ho).1
  | set0 => obtain ⟨_, O⟩ := N; exact bears_of O lv_s.2.2.2
  | set1 p => obtain ⟨_, _, O, _⟩ := N; exact bears_of O lv_s.2.2.2
  | set2 p q => obtain ⟨_, _, _, O, _⟩ := N; exact bears_of O lv_s.2.2.2
  | one a => exact wf.elim
  | rng a b => exact wf.elim
theorem lev_pos {T : Tm} : 1 ≤ T.lev := by
  cases T with
  | bin o _ _ => exact (bl_ok o).1
  | _ => exact Nat.le_of_ble_eq_true rfl
theorem sz_l {a b n : Nat} (h : a + b + 1 ≤ n) : a ≤ n := Nat.le_trans (Nat.le_succ_of_le (Nat.le_add_right a b)) h
theorem sz_r {a b n : Nat} (h : a + b + 1 ≤ n) : b ≤ n := Nat.le_trans (Nat.le_succ_of_le (Nat.le_add_left b a)) h
theorem lenok {T : Tm} (l : Nat) (g : T.Good) (h : T.sz ≤ 4000) : (T.tx l).length ≤ 100000 := Nat.le_trans (tx_len T l g) (Nat.le_trans (Nat.mul_le_mul_left 20 h) (by decide))
theorem dep_c (d c : Nat) (h : c ≤ 16) : 8 * d + c ≤ 8 * (d + 1) + 8 := Nat.add_le_add_left h _
theorem dep_e (d c : Nat) (h : c ≤ 18) : 8 * d + c ≤ 8 * (d + 1) + 10 := Nat.add_le_add_left h _
theorem mx_l (a b : Nat) : 8 * a + 10 ≤ 8 * max a b + 10 := Nat.add_le_add_right (Nat.mul_le_mul_left 8 (Nat.le_max_left a b)) 10
theorem mx_r (a b : Nat) : 8 * b + 10 ≤ 8 * max a b + 10 := Nat.add_le_add_right (Nat.mul_le_mul_left 8 (Nat.le_max_right a b)) 10
theorem close {w : World} {T : Tm} (g : T.Good) (hs : T.sz ≤ 4000)
    (hb : T.Wf false → ∀ (news : Led) (nm : Addr) (v : Value), NamesO w news (.ref nm) → Nd news v T → Runs w (8 * T.dep + 8) news 262 [.ref nm, v] (TextPost news (T.tx 0)))
    (el : T.Wf true → ∀ (news : Led) (nm : Addr) (v : Value), NamesO w news (.ref nm) → Nd news v T → Runs w (8 * T.dep + 10) news 274 [.ref nm, v] (TextPost news (T.tx 0))) : Prints w T := by
  have len : (T.tx 0).length ≤ 100000 := lenok 0 g hs
  refine ⟨fun wf news nm v l t Nm N hl => ?_, fun wf news nm v Nm N => ?_, el⟩
  · obtain ⟨x, dx, es, n, op, to, rfl, m1, m2, e1, hlv⟩ := nd_bears wf N
    rw [tx_par T l wf hl]
    exact expr_of w _ news nm x dx es n op to _ l t (T.tx 0) m1 m2 e1 hlv (fun news' S => hb wf news' nm _ (Nm.mono S) (Nd.mono S N)) len
  · obtain ⟨x, dx, es, n, op, to, rfl, m1, m2, e1, hlv⟩ := nd_bears wf N
    have e : T.tx 1 = T.tx 0 := by rw [tx_par T 1 wf (by decide), if_neg (Int.not_lt.mpr (Int.ofNat_le.mpr lev_pos))]
    rw [e]
    exact expr_of1 w _ news nm x dx es n op to _ (T.tx 0) m1 m2 e1 hlv (Int.ofNat_le.mpr lev_pos) (fun news' S => hb wf news' nm _ (Nm.mono S) (Nd.mono S N)) len
theorem noPiece {w : World} {T : Tm} (h : ¬ T.Wf true) : T.Wf true → ∀ (news : Led) (nm : Addr) (v : Value), NamesO w news (.ref nm) → Nd news v T → Runs w (8 * T.dep + 10) news 274 [.ref nm, v] (TextPost news (T.tx 0)) := fun w => absurd w h
theorem lh_le (o : Str) : loL o ≤ 4 ∧ hiL o ≤ 4 := by unfold loL hiL; generalize cls o = k; cases k <;> decide
theorem lh_or {x y z : Nat} (f : (x = 1 ∧ y = 2 ∧ z = 2) ∨ (x = 2 ∧ y = 2 ∧ z = 3) ∨ (x = 3 ∧ y = 3 ∧ z = 4)) : ((x : Int) = 1 ∧ (y : Int) = 2 ∧ (z : Int) = 2) ∨ ((x : Int) = 2 ∧ (y : Int) = 2 ∧ (z : Int) = 3) ∨ ((x : Int) = 3 ∧ (y : Int) = 3 ∧ (z : Int) = 4) := by
  rcases f with ⟨rfl, rfl, rfl⟩ | ⟨rfl, rfl, rfl⟩ | ⟨rfl, rfl, rfl⟩
  · exact .inl ⟨rfl, rfl, rfl⟩
  · exact .inr (.inl ⟨rfl, rfl, rfl⟩)
  · exact .inr (.inr ⟨rfl, rfl, rfl⟩)
theorem prints (w : World) : ∀ T : Tm, T.Good → T.sz ≤ 4000 → Prints w T := by
  intro T
  induction T with
  | leaf x =>
    intro g hs
    refine close g hs (fun wf news nm v Nm N => ?_) (noPiece id)
    obtain ⟨_, _, O, Ob, _⟩ | ⟨_, _, _, O, Ty, h0, h1, rfl⟩ | ⟨_, _, _, O, Ty, h0, h1, rfl⟩ := N
    · obtain ⟨x, dx, l, es, n, kn, to, rfl, m1, m2, m3, e1, e2, e3, e4, v2, v4⟩ := O
      exact Runs.mono (show 5 ≤ 8 * 0 + 8 by decide) (bare_var w 0 news nm x dx es n to m1 m2 e1 Nm _ _ e4 v4 Ob)
    · obtain ⟨x, dx, l, es, n, kn, to, rfl, m1, m2, m3, e1, e2, e3, e4, v2, v4⟩ := O
      exact Runs.mono (show 5 ≤ 8 * 0 + 8 by decide) (bare_ci w 0 news nm x dx es n to m1 m2 e1 _ _ _ e2 v2 e4 Ty h0 h1)
    · obtain ⟨x, dx, l, es, n, kn, to, rfl, m1, m2, m3, e1, e2, e3, e4, v2, v4⟩ := O
      exact Runs.mono (show 5 ≤ 8 * 0 + 8 by decide) (bare_cb w 0 news nm x dx es n to m1 m2 e1 Nm _ _ _ e2 v2 e4 Ty h0 h1)
  | neg a ih =>
    intro g hs
    have P := ih g (Nat.le_of_succ_le hs)
    refine close g hs (fun wf news nm v Nm N => ?_) (noPiece id)
    obtain ⟨_, _, _, O, ho, Na⟩ := N
    · skip
      obtain ⟨x, dx, l, es, n, kn, to, rfl, m1, m2, m3, e1, e2, e3, e4, v2, v4⟩ := O
      have la : (a.tx 3).length ≤ 100000 := lenok 3 g (Nat.le_of_succ_le hs)
      have hlv := lv_neg2 ho
      exact Runs.mono (by first | decide | exact dep_c _ 10 (by decide) | exact dep_c _ 11 (by decide) | exact dep_c _ 12 (by decide) | exact dep_c _ 13 (by decide) | exact dep_c _ 14 (by decide) | exact dep_c _ 15 (by decide) | exact dep_c _ 16 (by decide) | exact dep_e _ 11 (by decide) | exact dep_e _ 12 (by decide) | exact dep_e _ 13 (by decide)) (bare_op w _ news nm x dx es n _ to 2 _ m1 m2 e1 hlv (by decide) (fun news' S => op_neg w _ news' nm x dx l es n kn _ _ to _ (S _ m1) (S _ m2) (S _ m3) e1 e3 ho (P.ptx (news := news') wf 3 (Nm.mono S) (Nd.mono S Na) (by decide)) la))
  | nt a ih =>
    intro g hs
    have P := ih g (Nat.le_of_succ_le hs)
    refine close g hs (fun wf news nm v Nm N => ?_) (noPiece id)
    obtain ⟨_, _, O, Na⟩ := N
    · skip
      obtain ⟨x, dx, l, es, n, kn, to, rfl, m1, m2, m3, e1, e2, e3, e4, v2, v4⟩ := O
      have la : (a.tx 4).length ≤ 100000 := lenok 4 g (Nat.le_of_succ_le hs)
      exact Runs.mono (by first | decide | exact dep_c _ 10 (by decide) | exact dep_c _ 11 (by decide) | exact dep_c _ 12 (by decide) | exact dep_c _ 13 (by decide) | exact dep_c _ 14 (by decide) | exact dep_c _ 15 (by decide) | exact dep_c _ 16 (by decide) | exact dep_e _ 11 (by decide) | exact dep_e _ 12 (by decide) | exact dep_e _ 13 (by decide)) (bare_not w _ news nm x dx es n to m1 m2 e1 l kn _ _ m3 e3 (P.ptx wf 4 Nm Na (by decide)) la)
  | bin o a b i1 i2 =>
    intro g hs
    have Pa := i1 g.2.1 (sz_l hs)
    have Pb := i2 g.2.2 (sz_r hs)
    refine close g hs (fun wf news nm v Nm N => ?_) (noPiece id)
    obtain ⟨_, _, _, _, O, ho, Na, Nb⟩ := N
    · skip
      obtain ⟨x, dx, l, es, n, kn, to, rfl, m1, m2, m3, e1, e2, e3, e4, v2, v4⟩ := O
      have f := tab_facts _ ho
      have t := tab_len _ ho
      dsimp only at f t
      have la : (a.tx (loL o)).length ≤ 100000 := lenok (loL o) g.2.1 (sz_l hs)
      have lb : (b.tx (hiL o)).length ≤ 100000 := lenok (hiL o) g.2.2 (sz_r hs)
      have hl4 := lh_le o
      have e0 : (Tm.bin o a b).tx 0 = a.tx (loL o) ++ S " " ++ o ++ S " " ++ b.tx (hiL o) := parS_0 _ _
      rw [e0]
      have b3 := bl_le o
      exact Runs.mono (sz := (8 * max a.dep b.dep + 10 + 2) + 2) (by first | decide | exact dep_c _ 10 (by decide) | exact dep_c _ 11 (by decide) | exact dep_c _ 12 (by decide) | exact dep_c _ 13 (by decide) | exact dep_c _ 14 (by decide) | exact dep_c _ 15 (by decide) | exact dep_c _ 16 (by decide) | exact dep_e _ 11 (by decide) | exact dep_e _ 12 (by decide) | exact dep_e _ 13 (by decide)) (bare_op w _ news nm x dx es n _ to (bl o : Int) _ m1 m2 e1 f.1 (Int.ofNat_lt.mpr (Nat.lt_succ_of_le b3)) (fun news' S => op_bin w _ news' nm x dx l es n kn _ o _ _ to _ _ (bl o : Int) (loL o : Int) (hiL o : Int) (S _ m1) (S _ m2) (S _ m3) e1 e3 f.1 f.2.1 f.2.2.1 f.2.2.2.1 f.2.2.2.2.1 t.2 t.1
        (lh_or f.2.2.2.2.2)
        ((Pa.ptx (news := news') wf.2.1 (loL o) (Nm.mono S) (Nd.mono S Na) hl4.1).up (mx_l _ _)) ((Pb.ptx (news := news') wf.2.2 (hiL o) (Nm.mono S) (Nd.mono S Nb) hl4.2).up (mx_r _ _)) la lb))
  | set0 =>
    intro g hs
    refine close g hs (fun wf news nm v Nm N => ?_) (noPiece id)
    obtain ⟨_, O⟩ := N
    · skip
      obtain ⟨x, dx, l, es, n, kn, to, rfl, m1, m2, m3, e1, e2, e3, e4, v2, v4⟩ := O
      exact Runs.mono (by first | decide | exact dep_c _ 10 (by decide) | exact dep_c _ 11 (by decide) | exact dep_c _ 12 (by decide) | exact dep_c _ 13 (by decide) | exact dep_c _ 14 (by decide) | exact dep_c _ 15 (by decide) | exact dep_c _ 16 (by decide) | exact dep_e _ 11 (by decide) | exact dep_e _ 12 (by decide) | exact dep_e _ 13 (by decide)) (bare_set0 w 0 news nm x dx es n to m1 m2 e1 l kn m3 e3)
  | set1 p ih =>
    intro g hs
    have P := ih g (Nat.le_of_succ_le hs)
    refine close g hs (fun wf news nm v Nm N => ?_) (noPiece id)
    obtain ⟨_, _, O, Na⟩ := N
    · skip
      obtain ⟨x, dx, l, es, n, kn, to, rfl, m1, m2, m3, e1, e2, e3, e4, v2, v4⟩ := O
      have la : (p.tx 0).length ≤ 100000 := lenok 0 g (Nat.le_of_succ_le hs)
      exact Runs.mono (by first | decide | exact dep_c _ 10 (by decide) | exact dep_c _ 11 (by decide) | exact dep_c _ 12 (by decide) | exact dep_c _ 13 (by decide) | exact dep_c _ 14 (by decide) | exact dep_c _ 15 (by decide) | exact dep_c _ 16 (by decide) | exact dep_e _ 11 (by decide) | exact dep_e _ 12 (by decide) | exact dep_e _ 13 (by decide)) (bare_set1 w (8 * p.dep + 10) news nm x dx es n to m1 m2 e1 l kn _ _ m3 e3 (fun news' S => P.el wf news' nm _ (Nm.mono S) (Nd.mono S Na)) la)
  | set2 p q i1 i2 =>
    intro g hs
    have P := i1 g.1 (sz_l hs)
    have P' := i2 g.2 (sz_r hs)
    refine close g hs (fun wf news nm v Nm N => ?_) (noPiece id)
    obtain ⟨_, _, _, O, Na, Nb⟩ := N
    · skip
      obtain ⟨x, dx, l, es, n, kn, to, rfl, m1, m2, m3, e1, e2, e3, e4, v2, v4⟩ := O
      have la : (p.tx 0).length ≤ 100000 := lenok 0 g.1 (sz_l hs)
      have lb : (q.tx 0).length ≤ 100000 := lenok 0 g.2 (sz_r hs)
      exact Runs.mono (by first | decide | exact dep_c _ 10 (by decide) | exact dep_c _ 11 (by decide) | exact dep_c _ 12 (by decide) | exact dep_c _ 13 (by decide) | exact dep_c _ 14 (by decide) | exact dep_c _ 15 (by decide) | exact dep_c _ 16 (by decide) | exact dep_e _ 11 (by decide) | exact dep_e _ 12 (by decide) | exact dep_e _ 13 (by decide)) (bare_set2 w (8 * max p.dep q.dep + 10) news nm x dx es n to m1 m2 e1 l kn _ _ _ _ m3 e3 (fun news' S => (P.el wf.1 news' nm _ (Nm.mono S) (Nd.mono S Na)).mono (mx_l _ _)) (fun news' S => (P'.el wf.2 news' nm _ (Nm.mono S) (Nd.mono S Nb)).mono (mx_r _ _)) la lb)
  | one a ih =>
    intro g hs
    have P := ih g (Nat.le_of_succ_le hs)
    refine close g hs (fun wf => wf.elim) (fun wf news nm v Nm N => ?_)
    obtain ⟨_, _, O, Na⟩ := N
    · skip
      obtain ⟨x, dx, l, es, n, kn, to, rfl, m1, m2, m3, e1, e2, e3, e4, v2, v4⟩ := O
      have la : (a.tx 1).length ≤ 100000 := lenok 1 g (Nat.le_of_succ_le hs)
      exact Runs.mono (by first | decide | exact dep_c _ 10 (by decide) | exact dep_c _ 11 (by decide) | exact dep_c _ 12 (by decide) | exact dep_c _ 13 (by decide) | exact dep_c _ 14 (by decide) | exact dep_c _ 15 (by decide) | exact dep_c _ 16 (by decide) | exact dep_e _ 11 (by decide) | exact dep_e _ 12 (by decide) | exact dep_e _ 13 (by decide)) (elem1 w (8 * a.dep + 10) news nm x dx es n to m1 m2 e1 l kn _ _ m3 e3 (fun news' S => P.ex1 wf news' nm _ (Nm.mono S) (Nd.mono S Na)) la)
  | rng a b i1 i2 =>
    intro g hs
    have P := i1 g.1 (sz_l hs)
    have P' := i2 g.2 (sz_r hs)
    refine close g hs (fun wf => wf.elim) (fun wf news nm v Nm N => ?_)
    obtain ⟨_, _, _, O, Na, Nb⟩ := N
    · skip
      obtain ⟨x, dx, l, es, n, kn, to, rfl, m1, m2, m3, e1, e2, e3, e4, v2, v4⟩ := O
      have la : (a.tx 1).length ≤ 100000 := lenok 1 g.1 (sz_l hs)
      have lb : (b.tx 1).length ≤ 100000 := lenok 1 g.2 (sz_r hs)
      exact Runs.mono (by first | decide | exact dep_c _ 10 (by decide) | exact dep_c _ 11 (by decide) | exact dep_c _ 12 (by decide) | exact dep_c _ 13 (by decide) | exact dep_c _ 14 (by decide) | exact dep_c _ 15 (by decide) | exact dep_c _ 16 (by decide) | exact dep_e _ 11 (by decide) | exact dep_e _ 12 (by decide) | exact dep_e _ 13 (by decide)) (elem2 w (8 * max a.dep b.dep + 10) news nm x dx es n to m1 m2 e1 l kn _ _ _ _ m3 e3 (fun news' S => (P.ex1 wf.1 news' nm _ (Nm.mono S) (Nd.mono S Na)).mono (mx_l _ _)) (fun news' S => (P'.ex1 wf.2 news' nm _ (Nm.mono S) (Nd.mono S Nb)).mono (mx_r _ _)) la lb)
end T_N9
section G_L1
inductive DPost (news : Led) (d : Dat) (r : Value) (news' : Led) : Prop
  | mk (tl : Led) : news' = tl ++ news → (∀ q ∈ news, ∀ p ∈ tl, p.1 ≠ q.1) → DatIn tl r d → DPost news d r news'
theorem Runs.useD {w : World} {sz : Nat} {news : Led} {f : Addr} {vs : List Value} {nz : Led} {d : Dat} (R : Runs w sz news f vs (DPost nz d))
    {p : Program} {loose : List Str} {mean : ExcName → Option Value} {mg mb : Str → Option Value} {dp un : Nat} {gd : Option (List Code)} {cn : Str} {cs : Scope} {a : Addr} {ccd : Value} {cl : List (Str × Addr)} {outer : List Env} {A₀ : Around} {base h₀ : Heap} {L : Addr} {m : Str → Option Value} {s : Shared}
    {Q E : Value → Shared → Prop}
    (F : Fr h₀ L s.heap m) (B : Below A₀ base outer h₀) (X : (hd.heap_39 w.params).In h₀) (T : Top p loose mean mg mb h₀) (hk : cs.kind = .function) (N : News h₀ L s.heap news) (hd : dp + sz < recursionLimit) (hu : un + 8 * sz + 200 < cLine)
    (ret : ∀ r h' tk', Fr h₀ L h' m → ∀ (tl : Led), (∀ q ∈ nz, ∀ p ∈ tl, p.1 ≠ q.1) → DatIn tl r d → News h₀ L h' (tl ++ nz) → Q r { s with heap := h', toks := tk' }) :
    wpAny (model PySem.Challenge.rw_pb0356_01.row.prog w) (ktrTop dp un gd cn cs L a ccd cl outer) (call (.ref f) vs) Q E s :=
  R.use B F X N T hk hd hu fun r n h t p F N => by
    obtain ⟨tl, rfl, Y, D⟩ := p
    exact ret r h t F tl Y D N
noncomputable def PD (w : World) (sz : Nat) (news : Led) (v : Value) (d : Dat) : Prop := ∀ news', (∀ p ∈ news, p ∈ news') → Runs w sz news' 417 [v] (DPost news' d)
theorem PD.run {w : World} {sz : Nat} {news news' : Led} {v : Value} {d : Dat} (P : PD w sz news v d) (S : ∀ p ∈ news, p ∈ news') : Runs w sz news' 417 [v] (DPost news' d) := P news' S
theorem off3_app {I C D : Addr} : ∀ {a b : Led}, (∀ p ∈ a, p.1 ≠ I ∧ p.1 ≠ C ∧ p.1 ≠ D) → LCg.Off3 I C D b → LCg.Off3 I C D (a ++ b)
  | [], _, _, h => h
  | p :: a, _, k, h => ⟨k p (.head _), off3_app (fun q hq => k q (.tail _ hq)) h⟩
theorem compEnd_app {h₀ : Heap} {L I C D : Addr} {m : Str → Option Value} {s₁ : Shared} {oI oC oD : Obj} {S : Led → Prop} {rest : Value → Led → Prop} {y : Value} {h' : Heap} {tk : Nat} {tl nr : Led}
    (F : Fr h₀ L h' m) (N : News h₀ L h' (tl ++ ((I, oI) :: (C, oC) :: (D, oD) :: nr))) (off : LCg.Off3 I C D nr) (Y : ∀ q ∈ (I, oI) :: (C, oC) :: (D, oD) :: nr, ∀ p ∈ tl, p.1 ≠ q.1) (hS : S (tl ++ nr)) (r : rest y (tl ++ nr)) :
    LCg.CompEnd h₀ L m s₁ I oI C oC D oD S rest y { s₁ with heap := h', toks := tk } :=
  LCg.CompEnd.intro F N (tl ++ nr) (fun p hp => by
    simp only [List.mem_cons, List.mem_append] at hp ⊢
    rcases hp with h | h | h | h | h <;> simp [h]) (off3_app (fun p hp => ⟨Y _ (.head _) p hp, Y _ (.tail _ (.head _)) p hp, Y _ (.tail _ (.tail _ (.head _))) p hp⟩) off) hS r
local macro_rules | `(tactic| ktr_room) => `(tactic| exact rm0 (by assumption))
local macro_rules | `(tactic| ktr_units) => `(tactic| exact rm1 (by assumption))
local macro_rules | `(tactic| k_ne) => `(tactic| ((try dsimp only); first | with_reducible assumption | exact Nat.ne_of_gt (by simp only [*]) | exact Nat.ne_of_lt (by simp only [*])))
local macro_rules | `(tactic| k_mem) => `(tactic| first | assumption | exact List.mem_cons_self | (refine' List.mem_cons_of_mem _ ?_; k_mem) | (refine' List.mem_append_left _ ?_; k_mem) | (refine' List.mem_append_right _ ?_; k_mem))
local macro_rules | `(tactic| walk_at "getAttr ref") => `(tactic| (k_here; k_dflt (refine' get_own ?k1 ?k2 ?k3 ?k4 ?k5 ?k6 ?k7 ?k8 ?k9 ?_; (case k1 => k_asm); (case k2 => k_asm); (case k3 => k_inst); (case k4 => k_is); (case k5 => k_is); (case k6 => k_is); (case k7 => k_is); (case k8 => assumption); (case k9 => first | rfl | assumption); k_whole)))
local macro_rules | `(tactic| walk_at "n room") => `(tactic| first | decide | exact Nat.le_refl _ | exact Nat.le_succ _ | exact Nat.le_add_left _ _ | exact Nat.add_le_add_left (by decide) _ | lia)
local macro_rules | `(tactic| walk_at "CompEnd") => `(tactic| (k_dflt (refine compEnd_app (by assumption) (by assumption) (by assumption) (by assumption) (Or.inr ⟨_, by k_mem, rfl, _, rfl⟩) ?_)))
local macro_rules | `(tactic| walk_at "eval ListComp") => `(tactic| (k_here; k_dflt (refine LCg.ListComp_U (F₀ := by k_asm) (by rfl) (by decide) (by rfl) (by decide) (by rfl) ?_); k_dflt lcg_toSrc))
local macro_rules | `(tactic| walk_at "CompSrc") => `(tactic| (k_here; k_dflt (refine LCg.CompSrc.ledger (by rfl) (by k_asm) (by k_asm) (by k_mem) (by first | size_fits | exact Nat.le_of_ble_eq_true rfl) ?_); intro g'; lcg_lit))
section T_L1
section
theorem plain_var (w : World) (sz : Nat) (news : Led) (x dx : Addr) (es : List DictEntry) (n : Nat) (to : Tok) (m1 : (x, instObj 389 dx) ∈ news) (m2 : (dx, dictOf es n) ∈ news) (e1 : getL (S "op") es = some (some (.str (S "var") to))) (ob : Value) (xa : Str) (e4 : getL (S "value") es = some (some ob)) (v4 : handedIn ob = true) (Ob : ObjO news ob xa) : Runs w 3 news 417 [.ref x] (DPost news (.str xa)) := by
  obtain ⟨x1, dx1, es1, n1, t1, t2, rfl, o1, o2, o3, o4⟩ := Ob
  unfold Runs
  w_top off
  k_fill
  intro p loose mean mg mb dp un gd cn cs a ccd cl outer A₀ base h₀ L m s Q E B F X N T hk hd hu hret
  refine wpAny_call ?_
  k_dflt ktr_enter
  repeat' (first | (k_unfold; (try dsimp only)) | (k_end; wrow_close) | ((with_reducible show wpAny _ _ (call (Value.ref _) _ _) _ _ _); first | (k_here; k_dflt (refine' Runs.useD (PD.run ?P ?S) (F := by k_asm) (B := by k_asm) (X := by k_asm) (T := by k_asm) (hk := by first | exact rfl | assumption) (N := ?N) (hd := ?hd) (hu := ?hu) (ret := ?_); (case N => k_asm); (case P => assumption); (case S => exact fun p hp => by k_mem); (case hd => first | exact room_d (by with_reducible assumption) (by exact rfl) (by walk_at "n room") | (show _ + _ < _; lia) | ktr_room); (case hu => first | exact room_u _ (by with_reducible assumption) (by exact rfl) (by walk_at "n room") | exact room_u (sz := 5) _ (by with_reducible assumption) (by exact rfl) (by walk_at "n room") | ktr_units); intro _ _ _ _ _ _ _ _; (try dsimp only); k_sweep))) | ((with_reducible show wpAny _ _ (subscriptTail _ _ _ _) _ _ _); first | (k_here; k_dflt (refine' row_item ?N ?ma ?a ?b ?x ?_; (case N => k_asm); (case ma => k_mem); (case a => decide); (case b => decide); (case x => rfl); k_whole))) | ((with_reducible show wpAny _ _ (getAttr (Value.ref _) _ _) _ _ _); first | (k_here; k_dflt (refine' get_own ?k1 ?k2 ?k3 ?k4 ?k5 ?k6 ?k7 ?k8 ?k9 ?_; (case k1 => k_asm); (case k2 => k_asm); (case k3 => k_inst); (case k4 => k_is); (case k5 => k_is); (case k6 => k_is); (case k7 => k_is); (case k8 => assumption); (case k9 => first | rfl | assumption); k_whole))) | ((with_reducible show wpAny _ _ (getMethod (Value.ref _) _ _) _ _ _); first | (k_here; k_dflt (refine' method_inst ?F ?X ?I ?g ?f ?t ?l ?_; (case F => k_asm); (case X => k_asm); (case I => k_inst); (case g => k_is); (case f => k_is); (case t => k_is); (case l => assumption); k_whole))) | walk1 | (dsimp only; walk1) | (leave1; walk_say "STEP leave1"; try dsimp only) | fail "no step")
  exact hret _ _ _ _ ⟨[], rfl, (fun _ _ _ h => nomatch h), .str _ _⟩ (by assumption) (by assumption)
theorem plain_ci (w : World) (sz : Nat) (news : Led) (x dx : Addr) (es : List DictEntry) (n : Nat) (to : Tok) (m1 : (x, instObj 389 dx) ∈ news) (m2 : (dx, dictOf es n) ∈ news) (e1 : getL (S "op") es = some (some (.str (S "const") to))) (i : Int) (ti : Tok) (ty : Value) (e2 : getL (S "type") es = some (some ty)) (v2 : handedIn ty = true) (e4 : getL (S "value") es = some (some (.int i ti))) (Ty : TypeO news ty (S "integer")) (h0 : 0 ≤ i) (h1 : i < 12) : Runs w 3 news 417 [.ref x] (DPost news (.str (intText i))) := by
  obtain ⟨x1, dx1, es1, n1, t1, rfl, o1, o2, o3⟩ := Ty
  unfold Runs
  k_fill
  intro p loose mean mg mb dp un gd cn cs a ccd cl outer A₀ base h₀ L m s Q E B F X N T hk hd hu hret
  refine wpAny_call ?_
  k_dflt ktr_enter
  repeat' (first | (k_unfold; (try dsimp only)) | (k_end; wrow_close) | ((with_reducible show wpAny _ _ (call (Value.ref _) _ _) _ _ _); first | (k_here; k_dflt (refine' Runs.useD (PD.run ?P ?S) (F := by k_asm) (B := by k_asm) (X := by k_asm) (T := by k_asm) (hk := by first | exact rfl | assumption) (N := ?N) (hd := ?hd) (hu := ?hu) (ret := ?_); (case N => k_asm); (case P => assumption); (case S => exact fun p hp => by k_mem); (case hd => first | exact room_d (by with_reducible assumption) (by exact rfl) (by walk_at "n room") | (show _ + _ < _; lia) | ktr_room); (case hu => first | exact room_u _ (by with_reducible assumption) (by exact rfl) (by walk_at "n room") | exact room_u (sz := 5) _ (by with_reducible assumption) (by exact rfl) (by walk_at "n room") | ktr_units); intro _ _ _ _ _ _ _ _; (try dsimp only); k_sweep))) | ((with_reducible show wpAny _ _ (subscriptTail _ _ _ _) _ _ _); first | (k_here; k_dflt (refine' row_item ?N ?ma ?a ?b ?x ?_; (case N => k_asm); (case ma => k_mem); (case a => decide); (case b => decide); (case x => rfl); k_whole))) | ((with_reducible show wpAny _ _ (getAttr (Value.ref _) _ _) _ _ _); first | (k_here; k_dflt (refine' get_own ?k1 ?k2 ?k3 ?k4 ?k5 ?k6 ?k7 ?k8 ?k9 ?_; (case k1 => k_asm); (case k2 => k_asm); (case k3 => k_inst); (case k4 => k_is); (case k5 => k_is); (case k6 => k_is); (case k7 => k_is); (case k8 => assumption); (case k9 => first | rfl | assumption); k_whole))) | ((with_reducible show wpAny _ _ (getMethod (Value.ref _) _ _) _ _ _); first | (k_here; k_dflt (refine' method_inst ?F ?X ?I ?g ?f ?t ?l ?_; (case F => k_asm); (case X => k_asm); (case I => k_inst); (case g => k_is); (case f => k_is); (case t => k_is); (case l => assumption); k_whole))) | walk1 | (dsimp only; walk1) | (leave1; walk_say "STEP leave1"; try dsimp only) | fail "no step")
  exact hret _ _ _ _ ⟨[], rfl, (fun _ _ _ h => nomatch h), .str _ _⟩ (by assumption) (by assumption)
theorem plain_cb (w : World) (sz : Nat) (news : Led) (x dx : Addr) (es : List DictEntry) (n : Nat) (to : Tok) (m1 : (x, instObj 389 dx) ∈ news) (m2 : (dx, dictOf es n) ∈ news) (e1 : getL (S "op") es = some (some (.str (S "const") to))) (i : Int) (ti : Tok) (ty : Value) (e2 : getL (S "type") es = some (some ty)) (v2 : handedIn ty = true) (e4 : getL (S "value") es = some (some (.int i ti))) (Ty : TypeO news ty (S "boolean")) (h0 : 0 ≤ i) (h1 : i < 2) : Runs w 3 news 417 [.ref x] (DPost news (.str (boolText i))) := by
  obtain ⟨x1, dx1, es1, n1, t1, rfl, o1, o2, o3⟩ := Ty
  have hi : i = 0 ∨ i = 1 := by lia
  rcases hi with rfl | rfl
  all_goals (
  unfold Runs
  k_fill
  intro p loose mean mg mb dp un gd cn cs a ccd cl outer A₀ base h₀ L m s Q E B F X N T hk hd hu hret
  refine wpAny_call ?_
  k_dflt ktr_enter
  repeat' (first | (k_unfold; (try dsimp only)) | (k_end; wrow_close) | ((with_reducible show wpAny _ _ (call (Value.ref _) _ _) _ _ _); first | (k_here; k_dflt (refine' Runs.useD (PD.run ?P ?S) (F := by k_asm) (B := by k_asm) (X := by k_asm) (T := by k_asm) (hk := by first | exact rfl | assumption) (N := ?N) (hd := ?hd) (hu := ?hu) (ret := ?_); (case N => k_asm); (case P => assumption); (case S => exact fun p hp => by k_mem); (case hd => first | exact room_d (by with_reducible assumption) (by exact rfl) (by walk_at "n room") | (show _ + _ < _; lia) | ktr_room); (case hu => first | exact room_u _ (by with_reducible assumption) (by exact rfl) (by walk_at "n room") | exact room_u (sz := 5) _ (by with_reducible assumption) (by exact rfl) (by walk_at "n room") | ktr_units); intro _ _ _ _ _ _ _ _; (try dsimp only); k_sweep))) | ((with_reducible show wpAny _ _ (subscriptTail _ _ _ _) _ _ _); first | (k_here; k_dflt (refine' row_item ?N ?ma ?a ?b ?x ?_; (case N => k_asm); (case ma => k_mem); (case a => decide); (case b => decide); (case x => rfl); k_whole))) | ((with_reducible show wpAny _ _ (getAttr (Value.ref _) _ _) _ _ _); first | (k_here; k_dflt (refine' get_own ?k1 ?k2 ?k3 ?k4 ?k5 ?k6 ?k7 ?k8 ?k9 ?_; (case k1 => k_asm); (case k2 => k_asm); (case k3 => k_inst); (case k4 => k_is); (case k5 => k_is); (case k6 => k_is); (case k7 => k_is); (case k8 => assumption); (case k9 => first | rfl | assumption); k_whole))) | ((with_reducible show wpAny _ _ (getMethod (Value.ref _) _ _) _ _ _); first | (k_here; k_dflt (refine' method_inst ?F ?X ?I ?g ?f ?t ?l ?_; (case F => k_asm); (case X => k_asm); (case I => k_inst); (case g => k_is); (case f => k_is); (case t => k_is); (case l => assumption); k_whole))) | walk1 | (dsimp only; walk1) | (leave1; walk_say "STEP leave1"; try dsimp only) | fail "no step"))
  all_goals exact hret _ _ _ _ ⟨[], rfl, (fun _ _ _ h => nomatch h), .str _ _⟩ (by assumption) (News.t1 (by assumption))
end
end T_L1
theorem pd_fin {news tl rest : Led} {x : Addr} {o : Obj} {y : Addr × Obj} {a : Prop} {r : Value} {d : Dat} {h₀ h' : Heap} {L : Addr} {m : Str → Option Value} {P : Value → Led → Heap → Nat → Prop} {tk : Nat}
    (ret : ∀ r news' h' tk', DPost news d r news' → Fr h₀ L h' m → News h₀ L h' news' → P r news' h' tk') (F : Fr h₀ L h' m) (N : News h₀ L h' ((x, o) :: y :: rest)) (l1 : a ∧ AllLt x rest) (sub : ∀ p ∈ tl ++ news, p ∈ rest)
    (fr : ∀ q ∈ news, ∀ p ∈ tl, p.1 ≠ q.1) (D : DatIn ((x, o) :: tl) r d) : P r (((x, o) :: tl) ++ news) h' tk :=
  ret _ _ _ _ ⟨(x, o) :: tl, rfl, (fun q hq => List.forall_mem_cons.mpr ⟨Nat.ne_of_gt (ktn_ltOf l1.2 q (sub q (List.mem_append_right _ hq))), fr q hq⟩), D⟩ F (fun p hp => N p (by
    rcases List.mem_cons.mp hp with rfl | hp
    · exact .head _
    · exact .tail _ (.tail _ (sub p hp))))
noncomputable def plainWord (op : Str) : Str := if (Txt.item op 0 == S "s") = true then Txt.slice op (some 1) none else op
theorem sub_two {ta tb news : Led} {c1 c2 : Addr × Obj} : ∀ p ∈ (tb ++ ta) ++ news, p ∈ tb ++ (ta ++ c1 :: c2 :: news) := fun p hp => by
  simp only [List.mem_append, List.mem_cons] at hp ⊢
  rcases hp with (h | h) | h <;> simp [h]
theorem sub_one {ta news : Led} {c1 c2 : Addr × Obj} : ∀ p ∈ ta ++ news, p ∈ ta ++ c1 :: c2 :: news := fun p hp => by
  simp only [List.mem_append, List.mem_cons] at hp ⊢
  rcases hp with h | h <;> simp [h]
theorem sub_none {news : Led} {c1 c2 : Addr × Obj} : ∀ p ∈ [] ++ news, p ∈ c1 :: c2 :: news := fun p hp => by
  simp only [List.nil_append, List.mem_cons] at hp ⊢
  simp [hp]
theorem fr_one {ta l : Led} {i1 i2 i3 c1 c2 : Addr × Obj} (h : ∀ q ∈ i1 :: i2 :: i3 :: c1 :: c2 :: l, ∀ p ∈ ta, p.1 ≠ q.1) : ∀ q ∈ l, ∀ p ∈ ta, p.1 ≠ q.1 := fun q hq => h q (.tail _ (.tail _ (.tail _ (.tail _ (.tail _ hq)))))
theorem fr_two {ta tb l : Led} {i1 i2 i3 c1 c2 : Addr × Obj} (h : ∀ q ∈ i1 :: i2 :: i3 :: (ta ++ c1 :: c2 :: l), ∀ p ∈ tb, p.1 ≠ q.1) : ∀ q ∈ l, ∀ p ∈ tb, p.1 ≠ q.1 := fun q hq => h q (.tail _ (.tail _ (.tail _ (List.mem_append_right _ (.tail _ (.tail _ hq))))))
noncomputable def getWord (op : Str) : Str := if op = S "neg" then S "-" else if op = S "s~" then S "-" else if op = S "not" then S "~" else if op = S "single" then S "one" else if op = S "range" then S ".." else if op = S "set" then S "{" else op
theorem flat_str {v : Value} {x : Str} (h : PyProof.V.Flat v (.str x)) : ∃ t, v = .str x t := by
  cases h {} with
  | str x t => exact ⟨t, rfl⟩
theorem get_word {op wd : Str} {v : Value} {a1 a2 a3 a4 a5 a6 b1 b2 b3 b4 b5 b6 : Tok} (h : PyProof.V.Flat v ((Spec.lookup (PyData.str op) (strData [(Value.str (Str.ofString "neg") a1, Value.str (Str.ofString "-") b1), (Value.str (Str.ofString "s~") a2, Value.str (Str.ofString "-") b2), (Value.str (Str.ofString "not") a3, Value.str (Str.ofString "~") b3), (Value.str (Str.ofString "single") a4, Value.str (Str.ofString "one") b4), (Value.str (Str.ofString "range") a5, Value.str (Str.ofString "..") b5), (Value.str (Str.ofString "set") a6, Value.str (Str.ofString "{") b6)])).getD (PyData.str op)))
    (hw : getWord op = wd) : ∃ t, v = .str wd t := by
  refine flat_str (x := wd) ?_
  rw [← hw]
  have key : (Spec.lookup (PyData.str op) (strData [(Value.str (Str.ofString "neg") a1, Value.str (Str.ofString "-") b1), (Value.str (Str.ofString "s~") a2, Value.str (Str.ofString "-") b2), (Value.str (Str.ofString "not") a3, Value.str (Str.ofString "~") b3), (Value.str (Str.ofString "single") a4, Value.str (Str.ofString "one") b4), (Value.str (Str.ofString "range") a5, Value.str (Str.ofString "..") b5), (Value.str (Str.ofString "set") a6, Value.str (Str.ofString "{") b6)])).getD (PyData.str op) = .str (getWord op) := by
    have step : ∀ (a b : Str) (rest : Option PyData) (r2 : Str), rest.getD (PyData.str op) = .str r2 → ((if (a == op) = true then some (PyData.str b) else rest).getD (PyData.str op)) = .str (if op = a then b else r2) := by
      intro a b rest r2 hr
      by_cases h : op = a
      · subst h; simp
      · have h' : (a == op) = false := by simpa using fun e => h e.symm
        rw [h', if_neg h, if_neg (by decide)]; exact hr
    exact step _ _ _ _ (step _ _ _ _ (step _ _ _ _ (step _ _ _ _ (step _ _ _ _ (step _ _ _ _ rfl)))))
  rw [key] at h; exact h
local macro_rules | `(tactic| walk_at "FinE") => `(tactic| (k_dflt (unfold LCg.FinE); intro D' h' tk' F' N' o1'; (try dsimp only)))
section T_L2
section
theorem plain_k2 (w : World) (sz : Nat) (news : Led) (x dx : Addr) (es : List DictEntry) (n : Nat) (op wd : Str) (to : Tok) (m1 : (x, instObj 389 dx) ∈ news) (m2 : (dx, dictOf es n) ∈ news) (e1 : getL (S "op") es = some (some (.str op to))) (n0 : (op == S "var") = false) (n1 : (op == S "const") = false) (hw : getWord op = wd) (hlo : 1 ≤ op.length ∧ op.length ≤ 10) (hl : 1 ≤ wd.length ∧ wd.length ≤ 10) (l : Addr) (kn : Nat) (k1 k2 : Value) (da db : Dat) (m3 : (l, W.listOf [k1, k2].toArray kn) ∈ news) (e3 : getL (S "kids") es = some (some (.ref l))) (P1 : PD w sz news k1 da) (P2 : PD w sz news k2 db) : Runs w (sz + 3) news 417 [.ref x] (DPost news (.list [.str (plainWord wd), da, db])) := by
  unfold Runs
  w_top off
  k_fill
  intro p loose mean mg mb dp un gd cn cs a ccd cl outer A₀ base h₀ L m s Q E B F X N T hk hd hu hret
  refine wpAny_call ?_
  k_dflt ktr_enter
  repeat' (first | (k_unfold; (try dsimp only)) | (k_end; wrow_close) | ((with_reducible show wpAny _ _ (call (Value.ref _) _ _) _ _ _); first | (k_here; k_dflt (refine' Runs.useD (PD.run ?P ?S) (F := by k_asm) (B := by k_asm) (X := by k_asm) (T := by k_asm) (hk := by first | exact rfl | assumption) (N := ?N) (hd := ?hd) (hu := ?hu) (ret := ?_); (case N => k_asm); (case P => assumption); (case S => exact fun p hp => by k_mem); (case hd => first | exact room_d (by with_reducible assumption) (by exact rfl) (by walk_at "n room") | (show _ + _ < _; lia) | ktr_room); (case hu => first | exact room_u _ (by with_reducible assumption) (by exact rfl) (by walk_at "n room") | exact room_u (sz := 5) _ (by with_reducible assumption) (by exact rfl) (by walk_at "n room") | ktr_units); intro _ _ _ _ _ _ _ _; (try dsimp only); k_sweep))) | ((with_reducible show wpAny _ _ (call (Value.builtin "dict.get") _ _) _ _ _); first | (k_here; k_dflt (refine' call_get2_strTab ?k1 ?k2 ?_; (case k1 => k_tabat); (case k2 => k_flat); k_whole); intro _ hv9; (first | (have e9 := get_word hv9 (by assumption); obtain ⟨t9v, e9v⟩ := e9; subst e9v; clear hv9) | dict_open hv9))) | ((with_reducible show wpAny _ _ (subscriptTail _ _ _ _) _ _ _); first | (k_here; k_dflt (refine' row_item ?N ?ma ?a ?b ?x ?_; (case N => k_asm); (case ma => k_mem); (case a => decide); (case b => decide); (case x => rfl); k_whole))) | ((with_reducible show wpAny _ _ (getAttr (Value.ref _) _ _) _ _ _); first | (k_here; k_dflt (refine' get_own ?k1 ?k2 ?k3 ?k4 ?k5 ?k6 ?k7 ?k8 ?k9 ?_; (case k1 => k_asm); (case k2 => k_asm); (case k3 => k_inst); (case k4 => k_is); (case k5 => k_is); (case k6 => k_is); (case k7 => k_is); (case k8 => assumption); (case k9 => first | rfl | assumption); k_whole))) | ((with_reducible show wpAny _ _ (getMethod (Value.ref _) _ _) _ _ _); first | (k_here; k_dflt (refine' method_inst ?F ?X ?I ?g ?f ?t ?l ?_; (case F => k_asm); (case X => k_asm); (case I => k_inst); (case g => k_is); (case f => k_is); (case t => k_is); (case l => assumption); k_whole))) | walk1 | (dsimp only; walk1) | (leave1; walk_say "STEP leave1"; try dsimp only) | fail "no step")
  · rw [show plainWord wd = Txt.slice wd (some 1) none from if_pos (by assumption)] at hret
    exact pd_fin (tl := _ ++ _) (P := fun r _ h' tk' => Q r { s with heap := h', toks := tk' }) hret (by assumption) (by assumption) (by assumption) sub_two (fun q hq => all_app (fr_two (by assumption) q hq) (fr_one (by assumption) q hq)) (DatIn.list (vs := [_, _, _]) List.mem_cons_self (.cons (.str _ _) (.cons (DatIn.mono (fun _ h => List.mem_cons_of_mem _ (List.mem_append_right _ h)) (by assumption)) (.cons (DatIn.mono (fun _ h => List.mem_cons_of_mem _ (List.mem_append_left _ h)) (by assumption)) .nil))))
  · rw [show plainWord wd = wd from if_neg (by rw [show (Txt.item wd 0 == S "s") = false by assumption]; decide)] at hret
    exact pd_fin (tl := _ ++ _) (P := fun r _ h' tk' => Q r { s with heap := h', toks := tk' }) hret (by assumption) (by assumption) (by assumption) sub_two (fun q hq => all_app (fr_two (by assumption) q hq) (fr_one (by assumption) q hq)) (DatIn.list (vs := [_, _, _]) List.mem_cons_self (.cons (.str _ _) (.cons (DatIn.mono (fun _ h => List.mem_cons_of_mem _ (List.mem_append_right _ h)) (by assumption)) (.cons (DatIn.mono (fun _ h => List.mem_cons_of_mem _ (List.mem_append_left _ h)) (by assumption)) .nil))))
end
end T_L2
section T_L3
local macro_rules | `(tactic| walk_at "no such key 0") => `(tactic| fail)
section
theorem plain_k1 (w : World) (sz : Nat) (news : Led) (x dx : Addr) (es : List DictEntry) (n : Nat) (op wd : Str) (to : Tok) (m1 : (x, instObj 389 dx) ∈ news) (m2 : (dx, dictOf es n) ∈ news) (e1 : getL (S "op") es = some (some (.str op to))) (n0 : (op == S "var") = false) (n1 : (op == S "const") = false) (hw : getWord op = wd) (hlo : 1 ≤ op.length ∧ op.length ≤ 10) (hl : 1 ≤ wd.length ∧ wd.length ≤ 10) (l : Addr) (kn : Nat) (k1 : Value) (da : Dat) (m3 : (l, W.listOf [k1].toArray kn) ∈ news) (e3 : getL (S "kids") es = some (some (.ref l))) (P1 : PD w sz news k1 da) : Runs w (sz + 3) news 417 [.ref x] (DPost news (.list [.str (plainWord wd), da])) := by
  unfold Runs
  w_top off
  k_fill
  intro p loose mean mg mb dp un gd cn cs a ccd cl outer A₀ base h₀ L m s Q E B F X N T hk hd hu hret
  refine wpAny_call ?_
  k_dflt ktr_enter
  repeat' (first | (k_unfold; (try dsimp only)) | (k_end; wrow_close) | ((with_reducible show wpAny _ _ (call (Value.ref _) _ _) _ _ _); first | (k_here; k_dflt (refine' Runs.useD (PD.run ?P ?S) (F := by k_asm) (B := by k_asm) (X := by k_asm) (T := by k_asm) (hk := by first | exact rfl | assumption) (N := ?N) (hd := ?hd) (hu := ?hu) (ret := ?_); (case N => k_asm); (case P => assumption); (case S => exact fun p hp => by k_mem); (case hd => first | exact room_d (by with_reducible assumption) (by exact rfl) (by walk_at "n room") | (show _ + _ < _; lia) | ktr_room); (case hu => first | exact room_u _ (by with_reducible assumption) (by exact rfl) (by walk_at "n room") | exact room_u (sz := 5) _ (by with_reducible assumption) (by exact rfl) (by walk_at "n room") | ktr_units); intro _ _ _ _ _ _ _ _; (try dsimp only); k_sweep))) | ((with_reducible show wpAny _ _ (call (Value.builtin "dict.get") _ _) _ _ _); first | (k_here; k_dflt (refine' call_get2_strTab ?k1 ?k2 ?_; (case k1 => k_tabat); (case k2 => k_flat); k_whole); intro _ hv9; (first | (have e9 := get_word hv9 (by assumption); obtain ⟨t9v, e9v⟩ := e9; subst e9v; clear hv9) | dict_open hv9))) | ((with_reducible show wpAny _ _ (subscriptTail _ _ _ _) _ _ _); first | (k_here; k_dflt (refine' row_item ?N ?ma ?a ?b ?x ?_; (case N => k_asm); (case ma => k_mem); (case a => decide); (case b => decide); (case x => rfl); k_whole))) | ((with_reducible show wpAny _ _ (getAttr (Value.ref _) _ _) _ _ _); first | (k_here; k_dflt (refine' get_own ?k1 ?k2 ?k3 ?k4 ?k5 ?k6 ?k7 ?k8 ?k9 ?_; (case k1 => k_asm); (case k2 => k_asm); (case k3 => k_inst); (case k4 => k_is); (case k5 => k_is); (case k6 => k_is); (case k7 => k_is); (case k8 => assumption); (case k9 => first | rfl | assumption); k_whole))) | ((with_reducible show wpAny _ _ (getMethod (Value.ref _) _ _) _ _ _); first | (k_here; k_dflt (refine' method_inst ?F ?X ?I ?g ?f ?t ?l ?_; (case F => k_asm); (case X => k_asm); (case I => k_inst); (case g => k_is); (case f => k_is); (case t => k_is); (case l => assumption); k_whole))) | walk1 | (dsimp only; walk1) | (leave1; walk_say "STEP leave1"; try dsimp only) | fail "no step")
  · rw [show plainWord wd = Txt.slice wd (some 1) none from if_pos (by assumption)] at hret
    exact pd_fin (P := fun r _ h' tk' => Q r { s with heap := h', toks := tk' }) hret (by assumption) (by assumption) (by assumption) sub_one (fr_one (by assumption)) (DatIn.list (vs := [_, _]) List.mem_cons_self (.cons (.str _ _) (.cons (DatIn.mono (fun _ h => List.mem_cons_of_mem _ h) (by assumption)) .nil)))
  · rw [show plainWord wd = wd from if_neg (by rw [show (Txt.item wd 0 == S "s") = false by assumption]; decide)] at hret
    exact pd_fin (P := fun r _ h' tk' => Q r { s with heap := h', toks := tk' }) hret (by assumption) (by assumption) (by assumption) sub_one (fr_one (by assumption)) (DatIn.list (vs := [_, _]) List.mem_cons_self (.cons (.str _ _) (.cons (DatIn.mono (fun _ h => List.mem_cons_of_mem _ h) (by assumption)) .nil)))
theorem plain_k0 (w : World) (sz : Nat) (news : Led) (x dx : Addr) (es : List DictEntry) (n : Nat) (op wd : Str) (to : Tok) (m1 : (x, instObj 389 dx) ∈ news) (m2 : (dx, dictOf es n) ∈ news) (e1 : getL (S "op") es = some (some (.str op to))) (n0 : (op == S "var") = false) (n1 : (op == S "const") = false) (hw : getWord op = wd) (hlo : 1 ≤ op.length ∧ op.length ≤ 10) (hl : 1 ≤ wd.length ∧ wd.length ≤ 10) (l : Addr) (kn : Nat) (m3 : (l, W.listOf [].toArray kn) ∈ news) (e3 : getL (S "kids") es = some (some (.ref l)))  : Runs w (sz + 3) news 417 [.ref x] (DPost news (.list [.str (plainWord wd)])) := by
  unfold Runs
  k_fill
  intro p loose mean mg mb dp un gd cn cs a ccd cl outer A₀ base h₀ L m s Q E B F X N T hk hd hu hret
  refine wpAny_call ?_
  k_dflt ktr_enter
  repeat' (first | (k_unfold; (try dsimp only)) | (k_end; wrow_close) | ((with_reducible show wpAny _ _ (call (Value.ref _) _ _) _ _ _); first | (k_here; k_dflt (refine' Runs.useD (PD.run ?P ?S) (F := by k_asm) (B := by k_asm) (X := by k_asm) (T := by k_asm) (hk := by first | exact rfl | assumption) (N := ?N) (hd := ?hd) (hu := ?hu) (ret := ?_); (case N => k_asm); (case P => assumption); (case S => exact fun p hp => by k_mem); (case hd => first | exact room_d (by with_reducible assumption) (by exact rfl) (by walk_at "n room") | (show _ + _ < _; lia) | ktr_room); (case hu => first | exact room_u _ (by with_reducible assumption) (by exact rfl) (by walk_at "n room") | exact room_u (sz := 5) _ (by with_reducible assumption) (by exact rfl) (by walk_at "n room") | ktr_units); intro _ _ _ _ _ _ _ _; (try dsimp only); k_sweep))) | ((with_reducible show wpAny _ _ (call (Value.builtin "dict.get") _ _) _ _ _); first | (k_here; k_dflt (refine' call_get2_strTab ?k1 ?k2 ?_; (case k1 => k_tabat); (case k2 => k_flat); k_whole); intro _ hv9; (first | (have e9 := get_word hv9 (by assumption); obtain ⟨t9v, e9v⟩ := e9; subst e9v; clear hv9) | dict_open hv9))) | ((with_reducible show wpAny _ _ (subscriptTail _ _ _ _) _ _ _); first | (k_here; k_dflt (refine' row_item ?N ?ma ?a ?b ?x ?_; (case N => k_asm); (case ma => k_mem); (case a => decide); (case b => decide); (case x => rfl); k_whole))) | ((with_reducible show wpAny _ _ (getAttr (Value.ref _) _ _) _ _ _); first | (k_here; k_dflt (refine' get_own ?k1 ?k2 ?k3 ?k4 ?k5 ?k6 ?k7 ?k8 ?k9 ?_; (case k1 => k_asm); (case k2 => k_asm); (case k3 => k_inst); (case k4 => k_is); (case k5 => k_is); (case k6 => k_is); (case k7 => k_is); (case k8 => assumption); (case k9 => first | rfl | assumption); k_whole))) | ((with_reducible show wpAny _ _ (getMethod (Value.ref _) _ _) _ _ _); first | (k_here; k_dflt (refine' method_inst ?F ?X ?I ?g ?f ?t ?l ?_; (case F => k_asm); (case X => k_asm); (case I => k_inst); (case g => k_is); (case f => k_is); (case t => k_is); (case l => assumption); k_whole))) | walk1 | (dsimp only; walk1) | (leave1; walk_say "STEP leave1"; try dsimp only) | fail "no step")
  · rw [show plainWord wd = Txt.slice wd (some 1) none from if_pos (by assumption)] at hret
    exact pd_fin (tl := []) (P := fun r _ h' tk' => Q r { s with heap := h', toks := tk' }) hret (by assumption) (by assumption) (by assumption) sub_none (fun _ _ _ h => nomatch h) (DatIn.list (vs := [_]) List.mem_cons_self (.cons (.str _ _) .nil))
  · rw [show plainWord wd = wd from if_neg (by rw [show (Txt.item wd 0 == S "s") = false by assumption]; decide)] at hret
    exact pd_fin (tl := []) (P := fun r _ h' tk' => Q r { s with heap := h', toks := tk' }) hret (by assumption) (by assumption) (by assumption) sub_none (fun _ _ _ h => nomatch h) (DatIn.list (vs := [_]) List.mem_cons_self (.cons (.str _ _) .nil))
end
end T_L3
section T_L4
theorem tab_plain : ∀ p ∈ binTab, getWord p.1 = p.1 ∧ plainWord p.1 = p.2 ∧ (p.1 == S "var") = false ∧ (p.1 == S "const") = false ∧ 1 ≤ p.1.length ∧ p.1.length ≤ 10 := by decide +kernel
noncomputable def unTab : List (Str × Str) := [(S "neg", S "-"), (S "s~", S "-"), (S "not", S "~"), (S "single", S "one"), (S "range", S ".."), (S "set", S "{")]
theorem un_plain : ∀ p ∈ unTab, getWord p.1 = p.2 ∧ plainWord p.2 = p.2 ∧ (p.1 == S "var") = false ∧ (p.1 == S "const") = false ∧ (1 ≤ p.1.length ∧ p.1.length ≤ 10) ∧ 1 ≤ p.2.length ∧ p.2.length ≤ 10 := by decide +kernel
theorem un_mem : (S "neg", S "-") ∈ unTab ∧ (S "s~", S "-") ∈ unTab ∧ (S "not", S "~") ∈ unTab ∧ (S "single", S "one") ∈ unTab ∧ (S "range", S "..") ∈ unTab ∧ (S "set", S "{") ∈ unTab := by decide +kernel
section
variable {w : World} {sz : Nat} {news : Led} {op wd : Str} {ty k1 k2 v : Value} {da db : Dat}
theorem pk0 (h : (op, wd) ∈ unTab) (O : NodeO news v op ty [] .none) : Runs w 4 news 417 [v] (DPost news (.list [.str wd])) := by
  obtain ⟨x, dx, l, es, n, kn, to, rfl, m1, m2, m3, e1, e2, e3, e4, v2, v4⟩ := O
  obtain ⟨a, b, c, d, e, f⟩ := un_plain _ h
  dsimp only at a b c d e f
  have q := plain_k0 w 1 news x dx es n op wd to m1 m2 e1 c d a e f l kn m3 e3
  rw [b] at q; exact q
theorem pk1 (h : (op, wd) ∈ unTab) (O : NodeO news v op ty [k1] .none) (P : PD w sz news k1 da) : Runs w (sz + 3) news 417 [v] (DPost news (.list [.str wd, da])) := by
  obtain ⟨x, dx, l, es, n, kn, to, rfl, m1, m2, m3, e1, e2, e3, e4, v2, v4⟩ := O
  obtain ⟨a, b, c, d, e, f⟩ := un_plain _ h
  dsimp only at a b c d e f
  have q := plain_k1 w sz news x dx es n op wd to m1 m2 e1 c d a e f l kn _ _ m3 e3 P
  rw [b] at q; exact q
theorem pk2 (h : (op, wd) ∈ unTab) (O : NodeO news v op ty [k1, k2] .none) (P : PD w sz news k1 da) (P' : PD w sz news k2 db) : Runs w (sz + 3) news 417 [v] (DPost news (.list [.str wd, da, db])) := by
  obtain ⟨x, dx, l, es, n, kn, to, rfl, m1, m2, m3, e1, e2, e3, e4, v2, v4⟩ := O
  obtain ⟨a, b, c, d, e, f⟩ := un_plain _ h
  dsimp only at a b c d e f
  have q := plain_k2 w sz news x dx es n op wd to m1 m2 e1 c d a e f l kn _ _ _ _ m3 e3 P P'
  rw [b] at q; exact q
theorem pkb (h : (op, wd) ∈ binTab) (O : NodeO news v op ty [k1, k2] .none) (P : PD w sz news k1 da) (P' : PD w sz news k2 db) : Runs w (sz + 3) news 417 [v] (DPost news (.list [.str wd, da, db])) := by
  obtain ⟨x, dx, l, es, n, kn, to, rfl, m1, m2, m3, e1, e2, e3, e4, v2, v4⟩ := O
  obtain ⟨a, b, c, d, e⟩ := tab_plain _ h
  dsimp only at a b c d e
  have q := plain_k2 w sz news x dx es n op op to m1 m2 e1 c d a e e l kn _ _ _ _ m3 e3 P P'
  rw [b] at q; exact q
end
theorem s3d {d : Nat} {c : Nat} (h : c ≤ 8) : 3 * d + c ≤ 3 * (d + 1) + 5 := Nat.add_le_add_left h _
theorem m3l (a b : Nat) : 3 * a + 5 ≤ 3 * max a b + 5 := Nat.add_le_add_right (Nat.mul_le_mul_left 3 (Nat.le_max_left a b)) 5
theorem m3r (a b : Nat) : 3 * b + 5 ≤ 3 * max a b + 5 := Nat.add_le_add_right (Nat.mul_le_mul_left 3 (Nat.le_max_right a b)) 5
theorem plains (w : World) : ∀ (T : Tm) (news : Led) (v : Value), Nd news v T → Runs w (3 * T.dep + 5) news 417 [v] (DPost news T.pl) := by
  intro T
  induction T with
  | leaf x =>
    intro news v N
    obtain ⟨_, _, O, Ob, _⟩ | ⟨_, _, _, O, Ty, h0, h1, rfl⟩ | ⟨_, _, _, O, Ty, h0, h1, rfl⟩ := N <;> obtain ⟨x, dx, l, es, n, kn, to, rfl, m1, m2, m3, e1, e2, e3, e4, v2, v4⟩ := O
    · exact Runs.mono (show _ ≤ 3 * 0 + 5 by decide) (plain_var w 0 news x dx es n to m1 m2 e1 _ _ e4 v4 Ob)
    · exact Runs.mono (show _ ≤ 3 * 0 + 5 by decide) (plain_ci w 0 news x dx es n to m1 m2 e1 _ _ _ e2 v2 e4 Ty h0 h1)
    · exact Runs.mono (show _ ≤ 3 * 0 + 5 by decide) (plain_cb w 0 news x dx es n to m1 m2 e1 _ _ _ e2 v2 e4 Ty h0 h1)
  | neg a ih =>
    intro news v N
    obtain ⟨_, _, _, O, ho, Na⟩ := N
    exact Runs.mono (s3d (c := 8) (by decide)) (pk1 (sz := 3 * Tm.dep _ + 5) (wd := S "-") (by rcases ho with rfl | rfl; exact un_mem.1; exact un_mem.2.1) O fun news' S => ih news' _ (Nd.mono S Na))
  | nt a ih =>
    intro news v N
    obtain ⟨_, _, O, Na⟩ := N
    exact Runs.mono (s3d (c := 8) (by decide)) (pk1 (sz := 3 * Tm.dep _ + 5) un_mem.2.2.1 O fun news' S => ih news' _ (Nd.mono S Na))
  | bin o a b i1 i2 =>
    intro news v N
    obtain ⟨_, _, _, _, O, ho, Na, Nb⟩ := N
    exact Runs.mono (s3d (c := 8) (by decide)) (pkb (sz := 3 * max (Tm.dep _) (Tm.dep _) + 5) ho O (fun news' S => (i1 news' _ (Nd.mono S Na)).mono (m3l _ _)) (fun news' S => (i2 news' _ (Nd.mono S Nb)).mono (m3r _ _)))
  | set0 =>
    intro news v N
    obtain ⟨_, O⟩ := N
    exact Runs.mono (show _ ≤ 3 * 0 + 5 by decide) (pk0 un_mem.2.2.2.2.2 O)
  | set1 p ih =>
    intro news v N
    obtain ⟨_, _, O, Na⟩ := N
    exact Runs.mono (s3d (c := 8) (by decide)) (pk1 (sz := 3 * Tm.dep _ + 5) un_mem.2.2.2.2.2 O fun news' S => ih news' _ (Nd.mono S Na))
  | set2 p q i1 i2 =>
    intro news v N
    obtain ⟨_, _, _, O, Na, Nb⟩ := N
    exact Runs.mono (s3d (c := 8) (by decide)) (pk2 (sz := 3 * max (Tm.dep _) (Tm.dep _) + 5) un_mem.2.2.2.2.2 O (fun news' S => (i1 news' _ (Nd.mono S Na)).mono (m3l _ _)) (fun news' S => (i2 news' _ (Nd.mono S Nb)).mono (m3r _ _)))
  | one a ih =>
    intro news v N
    obtain ⟨_, _, O, Na⟩ := N
    exact Runs.mono (s3d (c := 8) (by decide)) (pk1 (sz := 3 * Tm.dep _ + 5) un_mem.2.2.2.1 O fun news' S => ih news' _ (Nd.mono S Na))
  | rng a b i1 i2 =>
    intro news v N
    obtain ⟨_, _, _, O, Na, Nb⟩ := N
    exact Runs.mono (s3d (c := 8) (by decide)) (pk2 (sz := 3 * max (Tm.dep _) (Tm.dep _) + 5) un_mem.2.2.2.2.1 O (fun news' S => (i1 news' _ (Nd.mono S Na)).mono (m3l _ _)) (fun news' S => (i2 news' _ (Nd.mono S Nb)).mono (m3r _ _)))
end T_L4
end G_L1
section T_Y0
structure Att (es : List DictEntry) (f : Str → Option Value) (len : Nat) : Prop where
  get : ∀ y, getL y es = some (f y)
  len : es.length ≤ len
  key : ∀ d ∈ es, d.refKey = false
theorem att_nil : Att [] (fun _ => none) 0 := ⟨fun _ => rfl, Nat.le_refl _, fun _ h => nomatch h⟩
theorem isStr_eq {k : Value} {x y : Str} (h : k.isStr x = true) (h2 : k.isStr y = true) : x = y := by
  cases k with
  | str z t => exact (eq_of_beq h : z = x).symm.trans (eq_of_beq h2)
  | _ => cases h
theorem getL_cons {d : DictEntry} {r : List DictEntry} {y : Str} (h : d.refKey = false) : getL y (d :: r) = if d.key.isStr y = true then some (some d.val) else getL y r := by
  unfold getL
  rw [List.find?_cons, List.any_cons, h, Bool.false_or]
  cases d.key.isStr y <;> rfl
theorem putL_key {name : Str} {hsh : Int} {t : Tok} {v : Value} {es : List DictEntry} (h : ∀ d ∈ es, d.refKey = false) : ∀ d ∈ putL name hsh (.str name t) v es, d.refKey = false := by
  induction es with
  | nil => exact fun d m => List.mem_singleton.mp m ▸ rfl
  | cons d r ih =>
    have q := List.forall_mem_cons.mp h
    by_cases c : d.key.isStr name = true
    · rw [show putL name hsh (.str name t) v (d :: r) = _ from if_pos c]; exact List.forall_mem_cons.mpr ⟨q.1, q.2⟩
    · rw [show putL name hsh (.str name t) v (d :: r) = _ from if_neg c]; exact List.forall_mem_cons.mpr ⟨q.1, ih q.2⟩
theorem getL_put {name y : Str} {hsh : Int} {t : Tok} {v : Value} {es : List DictEntry} (k : ∀ d ∈ es, d.refKey = false) : ∀ {o : Option Value}, getL y es = some o → getL y (putL name hsh (.str name t) v es) = some (if y = name then some v else o) := by
  induction es with
  | nil =>
    intro o h
    have ho : none = o := Option.some.inj h
    refine (getL_cons rfl).trans ?_
    by_cases e : y = name
    · rw [if_pos e]; exact if_pos (by rw [e]; exact beq_self_eq_true name)
    · rw [if_neg e]; exact (if_neg fun q => e (eq_of_beq q).symm).trans h
  | cons d r ih =>
    intro o h
    have q := List.forall_mem_cons.mp k
    rw [getL_cons q.1] at h
    by_cases c : d.key.isStr name = true
    · rw [show putL name hsh (.str name t) v (d :: r) = _ from if_pos c]
      refine (getL_cons (d := ⟨d.hash, d.key, v⟩) q.1).trans ?_
      by_cases e : y = name
      · rw [if_pos e]; exact if_pos (by rw [e]; exact c)
      · have c2 : ¬ d.key.isStr y = true := fun z => e (isStr_eq z c)
        rw [if_neg c2] at h
        rw [if_neg e]; exact (if_neg c2).trans h
    · rw [show putL name hsh (.str name t) v (d :: r) = _ from if_neg c, getL_cons q.1]
      by_cases z : d.key.isStr y = true
      · rw [if_pos z] at h
        rw [if_pos z, if_neg (fun e => c (by rw [← e]; exact z))]; exact h
      · rw [if_neg z] at h
        rw [if_neg z]; exact ih q.2 h
theorem putL_len {name : Str} {hsh : Int} {k v : Value} (es : List DictEntry) : (putL name hsh k v es).length ≤ es.length + 1 := by
  induction es with
  | nil => exact Nat.le_refl _
  | cons d r ih =>
    by_cases c : d.key.isStr name = true
    · rw [show putL name hsh k v (d :: r) = _ from if_pos c]; exact Nat.le_succ _
    · rw [show putL name hsh k v (d :: r) = _ from if_neg c]; exact Nat.succ_le_succ ih
theorem Att.put {es : List DictEntry} {f : Str → Option Value} {len : Nat} (A : Att es f len) (name : Str) (hsh : Int) (t : Tok) (v : Value) : Att (putL name hsh (.str name t) v es) (fun y => if y = name then some v else f y) (len + 1) :=
  ⟨fun y => getL_put A.key (A.get y), Nat.le_trans (putL_len es) (Nat.succ_le_succ A.len), putL_key A.key⟩
theorem Att.at {es : List DictEntry} {f : Str → Option Value} {len : Nat} (A : Att es f len) {y : Str} {v : Value} (h : f y = some v) : getL y es = some (some v) := by rw [A.get, h]
theorem UpdF.up {d : Addr} {o : Obj} {l : List (Addr × Obj)} {g : Obj → List (Addr × Obj)} (h : UpdF d o l g) (o' : Obj) : Upd d o o' l (g o') := by
  induction h with
  | head a => exact .head a
  | tail a _ ih => exact .tail a ih
theorem set_abs {prog : Program} {w : World} {A : Around} {E : Value → Shared → Prop} {s : Shared} {h₀ : Heap} {L x C dx : Addr} {m : Str → Option Value} {K : Frag} {ox : Obj} {name : Str} {v : Value} {news : Led} {g : Obj → Led} {es : List DictEntry} {n len : Nat} {f : Str → Option Value} {Q : Unit → Shared → Prop}
    (F : Fr h₀ L s.heap m) (X₀ : K.In h₀) (N : News h₀ L s.heap news) (I : InstAt s.heap x ox C (some (dictOf es n))) (hd : ox.dict = some dx)
    (hs : findIn K (.ref C) "__setattr__" = some (some (.builtin "object.__setattr__"))) (hp : plainOver K C = true) (ht : takerIn K C name = some none) (hh : hasDictIn K C = true) (A' : Att es f len) (hz : len ≤ 900)
    (U : UpdF dx (dictOf es n) news g)
    (h : ∀ h' es' n' tk', Fr h₀ L h' m → News h₀ L h' (g (dictOf es' n')) → Att es' (fun y => if y = name then some v else f y) (len + 1) → Q () { s with heap := h', toks := tk' }) :
    wpAny (model prog w) A (setAttr (.ref x) name v) Q E s :=
  set_dict F X₀ N I hd hs hp ht hh (by rw [A'.get]; rfl) rfl (UpdF.up U _) (Nat.le_trans (putL_len es) (Nat.le_trans (Nat.succ_le_succ (Nat.le_trans A'.len hz)) (by decide))) fun h' F' N' => h h' _ _ _ F' N' (A'.put _ _ _ _)
end T_Y0
inductive HPost (fz : Led) (ha cells : Addr) (len : Nat) (n : Int) (lim : Int) (r : Value) (news' : Led) : Prop
  | mk (i : Int) (j : Int) (k : Int) (d : Int) (t1 : Tok) (t2 : Tok) (t3 : Tok) (t4 : Tok) (t5 : Tok) (c : Nat) : news' = (ha, W.listOf #[.ref cells, .int i t1, .int j t2, .int k t3, .int n t4] c) :: fz → r = .int d t5 → 0 ≤ i → i ≤ len → 0 ≤ j → 0 ≤ k → k < 2147483647 → 0 ≤ d → d < lim → HPost fz ha cells len n lim r news'
section
variable {prog : Program} {w : World} {A : Around} {E : Value → Shared → Prop} {s : Shared} {h₀ : Heap} {L a : Addr} {news : Led} {vs : List Value} {n : Nat} {Q : Value → Shared → Prop}
theorem row_len (N : News h₀ L s.heap news) (ma : (a, W.listOf vs.toArray n) ∈ news) (hz : vs.length ≤ 5000) (h : Q (.int vs.length (s.toks + 1)) { s with toks := s.toks + 1 + 1 }) : wpAny (model prog w) A (call (.builtin "len") [.ref a]) Q E s :=
  len_list (News.isList N ma) (by rw [List.size_toArray]; lia) (by rw [List.size_toArray]; exact h)
theorem row_int {value slice : Expr} {k : Int} {u : Tok} {ns : List Int} (N : News h₀ L s.heap news) (ma : (a, W.listOf vs.toArray n) ∈ news) (hI : IntsAre vs ns) (h0 : 0 ≤ k) (h1 : k < vs.length) (hz : vs.length ≤ 5000) (h : ∀ x t, Q (.int x t) s)
    (hs : subscripted slice false (.ref a) (.int k u) = operate [.ref a, .int k u] (getItem (.ref a) (.int k u)) := by with_unfolding_all rfl) : wpAny (model prog w) A (subscriptTail value slice (.ref a) (.int k u)) Q E s := by
  have hL : s.heap.IsList a vs.toArray := News.isList N ma
  have hlt : k.toNat < ns.length := by rw [← hI.length]; lia
  obtain ⟨t, hx⟩ := hI.get k.toNat ns[k.toNat] (by simp [hlt])
  exact tail_any hL.typeIs slot_list_getitem.lookup (wpAny_getItem_list hL h0 (by lia) (by simpa using hx) (h _ t)) hs
end
section T_G1
section
local macro_rules | `(tactic| ktr_room) => `(tactic| exact rm0 (by assumption))
local macro_rules | `(tactic| ktr_units) => `(tactic| exact rm1 (by assumption))
local macro_rules | `(tactic| k_ne) => `(tactic| ((try dsimp only); first | with_reducible assumption | exact Nat.ne_of_gt (by simp only [*]) | exact Nat.ne_of_lt (by simp only [*])))
local macro_rules | `(tactic| k_mem) => `(tactic| first | assumption | exact List.mem_cons_self | (refine' List.mem_cons_of_mem _ ?_; k_mem) | (refine' List.mem_append_left _ ?_; k_mem) | (refine' List.mem_append_right _ ?_; k_mem))
local macro_rules | `(tactic| k_all) => `(tactic| assumption)
theorem fm {a b : Int} (h : 0 < b) : 0 ≤ a.fmod b ∧ a.fmod b < b := ⟨Int.fmod_nonneg_of_pos a h, Int.fmod_lt_of_pos a h⟩
theorem pick_ok (w : World) (fz : Led) (ha cells : Addr) (cv : List Value) (ns : List Int) (cn c : Nat) (i j k n lim : Int) (t1 t2 t3 t4 tl : Tok) (hz : ∀ p ∈ fz, p.1 ≠ ha) (hc : (cells, W.listOf cv.toArray cn) ∈ fz) (hI : IntsAre cv ns) (hlen : cv.length ≤ 63)
    (i0 : 0 ≤ i) (i1 : i ≤ cv.length) (j0 : 0 ≤ j) (k0 : 0 ≤ k) (k1 : k < 2147483647) (l0 : 2 ≤ lim) (l1 : lim ≤ 12) :
    Runs w 1 ((ha, W.listOf #[.ref cells, .int i t1, .int j t2, .int k t3, .int n t4] c) :: fz) 400 [.ref ha, .int lim tl] (HPost fz ha cells cv.length n lim) := by
  unfold Runs
  w_top off
  k_fill
  intro p loose mean mg mb dp un gd cn cs a ccd cl outer A₀ base h₀ L m s Q E B F X N T hk hd hu hret
  refine wpAny_call ?_
  k_dflt ktr_enter
  repeat' (first | (k_unfold; (try dsimp only)) | (k_end; wrow_close) | ((with_reducible show wpAny _ _ (call (Value.builtin "len") _ _) _ _ _); first | (k_here; k_dflt (refine' row_len ?N ?ma ?z ?_; (case N => k_asm); (case ma => k_mem); (case z => lia)))) | ((with_reducible show wpAny _ _ (subscriptTail _ _ _ _) _ _ _); first | (k_here; k_dflt (refine' row_int ?N ?ma ?I ?a ?b ?z ?_; (case N => k_asm); (case ma => k_mem); (case I => assumption); (case a => assumption); (case b => lia); (case z => lia)); intro _ _)) | walk1 | (dsimp only; walk1) | (leave1; walk_say "STEP leave1"; try dsimp only) | fail "no step")
  · (with_reducible rename News _ _ _ _ => kN)
    refine hret _ _ _ _ ?hq9 (by assumption) kN
    case hq9 => exact ⟨_, _, _, _, _, _, _, _, _, _, rfl, rfl, i0, i1, j0, (fm (by decide)).1, (fm (by decide)).2, (fm (by lia)).1, (fm (by lia)).2⟩
  · (with_reducible rename News _ _ _ _ => kN)
    refine hret _ _ _ _ ?hq9 (by assumption) kN
    case hq9 => exact ⟨_, _, _, _, _, _, _, _, _, _, rfl, rfl, by lia, by lia, Int.fdiv_nonneg (by assumption) (by lia), k0, k1, (fm (by lia)).1, (fm (by lia)).2⟩
  · (with_reducible rename News _ _ _ _ => kN)
    refine hret _ _ _ _ ?hq9 (by assumption) kN
    case hq9 => exact ⟨_, _, _, _, _, _, _, _, _, _, rfl, rfl, by lia, by lia, Int.fdiv_nonneg (by lia) (by lia), k0, k1, (fm (by lia)).1, (fm (by lia)).2⟩
  · (with_reducible rename News _ _ _ _ => kN)
    refine hret _ _ _ _ ?hq9 (by assumption) kN
    case hq9 => exact ⟨_, _, _, _, _, _, _, _, _, _, rfl, rfl, i0, i1, Int.fdiv_nonneg j0 (by lia), k0, k1, (fm (by lia)).1, (fm (by lia)).2⟩
end
end T_G1
inductive NPost (news : Led) (lk : Addr) (op : Str) (ty : Value) (ks : List Value) (val : Value) (r : Value) (news' : Led) : Prop
  | mk (tl : Led) : news' = tl ++ news → (∀ q ∈ news, ∀ p ∈ tl, p.1 ≠ q.1) → (∀ (l : Addr) (kn : Nat) (L0 : Led), (l, W.listOf (List.toArray ks) kn) ∈ L0 → l = lk → NodeO (tl ++ L0) r op ty ks val) → handedIn r = true → NPost news lk op ty ks val r news'
inductive OPost (news : Led) (name : Str) (r : Value) (news' : Led) : Prop
  | mk (tl : Led) : news' = tl ++ news → (∀ q ∈ news, ∀ p ∈ tl, p.1 ≠ q.1) → ObjO tl r name → handedIn r = true → OPost news name r news'
theorem Runs.useN {w : World} {sz : Nat} {news : Led} {f : Addr} {vs : List Value} {nz : Led} {lk : Addr} {op : Str} {ty : Value} {ks : List Value} {val : Value} (R : Runs w sz news f vs (NPost nz lk op ty ks val))
    {p : Program} {loose : List Str} {mean : ExcName → Option Value} {mg mb : Str → Option Value} {dp un : Nat} {gd : Option (List Code)} {cn : Str} {cs : Scope} {a : Addr} {ccd : Value} {cl : List (Str × Addr)} {outer : List Env} {A₀ : Around} {base h₀ : Heap} {L : Addr} {m : Str → Option Value} {s : Shared}
    {Q E : Value → Shared → Prop}
    (F : Fr h₀ L s.heap m) (B : Below A₀ base outer h₀) (X : (hd.heap_39 w.params).In h₀) (T : Top p loose mean mg mb h₀) (hk : cs.kind = .function) (N : News h₀ L s.heap news) (hd : dp + sz < recursionLimit) (hu : un + 8 * sz + 200 < cLine)
    (ret : ∀ r h' tk', Fr h₀ L h' m → ∀ (tl : Led), (∀ q ∈ nz, ∀ p ∈ tl, p.1 ≠ q.1) → (∀ (l : Addr) (kn : Nat) (L0 : Led), (l, W.listOf (List.toArray ks) kn) ∈ L0 → l = lk → NodeO (tl ++ L0) r op ty ks val) → handedIn r = true → News h₀ L h' (tl ++ nz) → Q r { s with heap := h', toks := tk' }) :
    wpAny (model PySem.Challenge.rw_pb0356_01.row.prog w) (ktrTop dp un gd cn cs L a ccd cl outer) (call (.ref f) vs) Q E s :=
  R.use B F X N T hk hd hu fun r n h t p F N => by
    obtain ⟨tl, rfl, Y, O, v⟩ := p
    exact ret r h t F tl Y O v N
theorem Runs.useO {w : World} {sz : Nat} {news : Led} {f : Addr} {vs : List Value} {nz : Led} {name : Str} (R : Runs w sz news f vs (OPost nz name))
    {p : Program} {loose : List Str} {mean : ExcName → Option Value} {mg mb : Str → Option Value} {dp un : Nat} {gd : Option (List Code)} {cn : Str} {cs : Scope} {a : Addr} {ccd : Value} {cl : List (Str × Addr)} {outer : List Env} {A₀ : Around} {base h₀ : Heap} {L : Addr} {m : Str → Option Value} {s : Shared}
    {Q E : Value → Shared → Prop}
    (F : Fr h₀ L s.heap m) (B : Below A₀ base outer h₀) (X : (hd.heap_39 w.params).In h₀) (T : Top p loose mean mg mb h₀) (hk : cs.kind = .function) (N : News h₀ L s.heap news) (hd : dp + sz < recursionLimit) (hu : un + 8 * sz + 200 < cLine)
    (ret : ∀ r h' tk', Fr h₀ L h' m → ∀ (tl : Led), (∀ q ∈ nz, ∀ p ∈ tl, p.1 ≠ q.1) → ObjO tl r name → handedIn r = true → News h₀ L h' (tl ++ nz) → Q r { s with heap := h', toks := tk' }) :
    wpAny (model PySem.Challenge.rw_pb0356_01.row.prog w) (ktrTop dp un gd cn cs L a ccd cl outer) (call (.ref f) vs) Q E s :=
  R.use B F X N T hk hd hu fun r n h t p F N => by
    obtain ⟨tl, rfl, Y, O, v⟩ := p
    exact ret r h t F tl Y O v N
theorem off2 {x d : Addr} {o o' : Obj} {news : Led} (l1 : ∀ q ∈ news, q.1 < d) (l2 : d < x) : ∀ q ∈ news, ∀ p ∈ [(x, o), (d, o')], p.1 ≠ q.1 := by
  intro q hq p hp
  have := l1 q hq
  simp only [List.mem_cons, List.not_mem_nil, or_false] at hp
  rcases hp with rfl | rfl
  · exact Nat.ne_of_gt (Nat.lt_trans this l2)
  · exact Nat.ne_of_gt this
section T_G2
section
local macro_rules | `(tactic| ktr_room) => `(tactic| exact rm0 (by assumption))
local macro_rules | `(tactic| ktr_units) => `(tactic| exact rm1 (by assumption))
local macro_rules | `(tactic| k_ne) => `(tactic| ((try dsimp only); first | with_reducible assumption | exact Nat.ne_of_gt (by simp only [*]) | exact Nat.ne_of_lt (by simp only [*])))
local macro_rules | `(tactic| k_mem) => `(tactic| first | assumption | exact List.mem_cons_self | (refine' List.mem_cons_of_mem _ ?_; k_mem) | (refine' List.mem_append_left _ ?_; k_mem) | (refine' List.mem_append_right _ ?_; k_mem))
local macro_rules | `(tactic| walk_at "setAttr ref") => `(tactic| (k_here; k_dflt (refine' set_abs ?k1 ?k2 ?k3 ?k4 ?k5 ?k6 ?k7 ?k8 ?k9 ?k10 ?k11 ?k12 ?_; (case k1 => k_asm); (case k2 => k_asm); (case k3 => k_asm); (case k4 => k_inst); (case k5 => exact rfl); (case k6 => k_is); (case k7 => k_is); (case k8 => k_is); (case k9 => k_is); (case k10 => with_reducible assumption); (case k11 => first | decide | lia); (case k12 => k_updF); k_whole; intro h' es' n' tk' F' N' A'; (try dsimp only at N'); (try k_sweep))))
theorem node5_ok (w : World) (news : Led) (op : Str) (to t0 : Tok) (ty val : Value) (l : Addr) (ks : List Value) (kn : Nat) (ml : (l, W.listOf (List.toArray ks) kn) ∈ news) (vt : handedIn ty = true) (vv : handedIn val = true) :
    Runs w 3 news 389 [.str op to, .int 0 t0, ty, .ref l, val] (NPost news l op ty ks val) := by
  have A0 := att_nil
  unfold Runs
  w_top off
  k_fill
  intro p loose mean mg mb dp un gd cn cs a ccd cl outer A₀ base h₀ L m s Q E B F X N T hk hd hu hret
  k_dflt (refine' call_cls ?k1 ?k2 ?k3 ?k4 ?k5 ?k6 ?_; (case k1 => k_asm); (case k2 => k_asm); (case k3 => k_asm); (case k4 => k_is); (case k5 => k_is); (case k6 => k_is); k_whole; intro x' d' h' F' N' l1 l2; (try k_lt2 l2); (try k_sweep); k_dflt (refine' code_def ?k1 ?k2 ?k3 ?k4 ?k5 ?kA ?kF ?kK ?k6 ?k7 ?k8 ?k9 ?kB ?_ ?c2 ?c3 ?c4 ?c5; (case kA => exact rfl); (case kF => exact rfl); (case kK => first | exact rfl | assumption); (case k1 => k_asm); (case k2 => k_asm); (case k3 => k_asm); (case k4 => k_asm); (case k5 => k_asm); (case k6 => k_is); (case k7 => k_is); (case k8 => ktr_room); (case k9 => first | exact BindsTo.of_eq rfl | exact binds_K (by k_in) rfl (by k_is) rfl rfl rfl); (case c5 => decide); (case kB => exact locs rfl); (case c2 => exact rfl); (case c3 => exact rfl); (case c4 => exact rfl); k_whole; intro _ _ _ _ _ _ _ _ _; (try dsimp only); (try k_fold)))
  k_steps
  (with_reducible rename Att _ _ _ => kA)
  refine hret _ _ _ _ ?hq9 (by assumption) (by assumption)
  exact ⟨_ :: _ :: [], rfl, off2 l1 l2, (fun l' kn' L0 hl el => by subst el; exact ⟨_, _, l', _, _, kn', to, rfl, .head _, .tail _ (.head _), .tail _ (.tail _ hl), kA.at rfl, kA.at rfl, kA.at rfl, kA.at rfl, vt, vv⟩), rfl⟩
theorem node4_ok (w : World) (news : Led) (op : Str) (to t0 : Tok) (ty : Value) (l : Addr) (ks : List Value) (kn : Nat) (ml : (l, W.listOf (List.toArray ks) kn) ∈ news) (vt : handedIn ty = true) :
    Runs w 3 news 389 [.str op to, .int 0 t0, ty, .ref l] (NPost news l op ty ks .none) := by
  have A0 := att_nil
  unfold Runs
  k_fill
  intro p loose mean mg mb dp un gd cn cs a ccd cl outer A₀ base h₀ L m s Q E B F X N T hk hd hu hret
  k_dflt (refine' call_cls ?k1 ?k2 ?k3 ?k4 ?k5 ?k6 ?_; (case k1 => k_asm); (case k2 => k_asm); (case k3 => k_asm); (case k4 => k_is); (case k5 => k_is); (case k6 => k_is); k_whole; intro x' d' h' F' N' l1 l2; (try k_lt2 l2); (try k_sweep); k_dflt (refine' code_def ?k1 ?k2 ?k3 ?k4 ?k5 ?kA ?kF ?kK ?k6 ?k7 ?k8 ?k9 ?kB ?_ ?c2 ?c3 ?c4 ?c5; (case kA => exact rfl); (case kF => exact rfl); (case kK => first | exact rfl | assumption); (case k1 => k_asm); (case k2 => k_asm); (case k3 => k_asm); (case k4 => k_asm); (case k5 => k_asm); (case k6 => k_is); (case k7 => k_is); (case k8 => ktr_room); (case k9 => first | exact BindsTo.of_eq rfl | exact binds_K (by k_in) rfl (by k_is) rfl rfl rfl); (case c5 => decide); (case kB => exact locs rfl); (case c2 => exact rfl); (case c3 => exact rfl); (case c4 => exact rfl); k_whole; intro _ _ _ _ _ _ _ _ _; (try dsimp only); (try k_fold)))
  k_steps
  (with_reducible rename Att _ _ _ => kA)
  refine hret _ _ _ _ ?hq9 (by assumption) (by assumption)
  exact ⟨_ :: _ :: [], rfl, off2 l1 l2, (fun l' kn' L0 hl el => by subst el; exact ⟨_, _, l', _, _, kn', to, rfl, .head _, .tail _ (.head _), .tail _ (.tail _ hl), kA.at rfl, kA.at rfl, kA.at rfl, kA.at rfl, vt, rfl⟩), rfl⟩
theorem obj_ok (w : World) (news : Led) (name : Str) (t1 t2 t3 : Tok) (ty : Value) (vt : handedIn ty = true) :
    Runs w 3 news 331 [.str name t1, .str (S "var") t2, ty, .int 0 t3] (OPost news name) := by
  have A0 := att_nil
  unfold Runs
  k_fill
  intro p loose mean mg mb dp un gd cn cs a ccd cl outer A₀ base h₀ L m s Q E B F X N T hk hd hu hret
  k_dflt (refine' call_cls ?k1 ?k2 ?k3 ?k4 ?k5 ?k6 ?_; (case k1 => k_asm); (case k2 => k_asm); (case k3 => k_asm); (case k4 => k_is); (case k5 => k_is); (case k6 => k_is); k_whole; intro x' d' h' F' N' l1 l2; (try k_lt2 l2); (try k_sweep); k_dflt (refine' code_def ?k1 ?k2 ?k3 ?k4 ?k5 ?kA ?kF ?kK ?k6 ?k7 ?k8 ?k9 ?kB ?_ ?c2 ?c3 ?c4 ?c5; (case kA => exact rfl); (case kF => exact rfl); (case kK => first | exact rfl | assumption); (case k1 => k_asm); (case k2 => k_asm); (case k3 => k_asm); (case k4 => k_asm); (case k5 => k_asm); (case k6 => k_is); (case k7 => k_is); (case k8 => ktr_room); (case k9 => first | exact BindsTo.of_eq rfl | exact binds_K (by k_in) rfl (by k_is) rfl rfl rfl); (case c5 => decide); (case kB => exact locs rfl); (case c2 => exact rfl); (case c3 => exact rfl); (case c4 => exact rfl); k_whole; intro _ _ _ _ _ _ _ _ _; (try dsimp only); (try k_fold)))
  k_steps
  (with_reducible rename Att _ _ _ => kA)
  refine hret _ _ _ _ ?hq9 (by assumption) (by assumption)
  exact ⟨_ :: _ :: [], rfl, off2 l1 l2, ⟨_, _, _, _, _, _, rfl, .head _, .tail _ (.head _), kA.at rfl, kA.at rfl⟩, rfl⟩
end
end T_G2
inductive TypesO (L : Led) (v : Value) : Prop
  | mk (x : Addr) (dx : Addr) (es : List DictEntry) (n : Nat) (tI : Value) (tB : Value) (tS : Value) : v = .ref x → (x, instObj 367 dx) ∈ L → (dx, dictOf es n) ∈ L → getL (S "integer") es = some (some tI) → getL (S "boolean") es = some (some tB) → getL (S "mask") es = some (some tS) → handedIn tI = true → handedIn tB = true → handedIn tS = true → TypeO L tI (S "integer") → TypeO L tB (S "boolean") → TypesO L v
theorem TypesO.mono {L L' : Led} {v : Value} (h : TypesO L v) (s : ∀ p ∈ L, p ∈ L') : TypesO L' v := by
  obtain ⟨x, dx, es, n, tI, tB, tS, e, m1, m2, a, b, c, d, f, g, h1, h2⟩ := h
  exact ⟨x, dx, es, n, tI, tB, tS, e, s _ m1, s _ m2, a, b, c, d, f, g, h1.mono s, h2.mono s⟩
inductive VPost (news : Led) (r : Value) (news' : Led) : Prop
  | mk (tl : Led) (x : Str) : news' = tl ++ news → (∀ q ∈ news, ∀ p ∈ tl, p.1 ≠ q.1) → Nd tl r (.leaf x) → cls x = .word → (Tm.leaf x).Good → handedIn r = true → VPost news r news'
theorem Runs.useV {w : World} {sz : Nat} {news : Led} {f : Addr} {vs : List Value} {nz : Led} (R : Runs w sz news f vs (VPost nz))
    {p : Program} {loose : List Str} {mean : ExcName → Option Value} {mg mb : Str → Option Value} {dp un : Nat} {gd : Option (List Code)} {cn : Str} {cs : Scope} {a : Addr} {ccd : Value} {cl : List (Str × Addr)} {outer : List Env} {A₀ : Around} {base h₀ : Heap} {L : Addr} {m : Str → Option Value} {s : Shared}
    {Q E : Value → Shared → Prop}
    (F : Fr h₀ L s.heap m) (B : Below A₀ base outer h₀) (X : (hd.heap_39 w.params).In h₀) (T : Top p loose mean mg mb h₀) (hk : cs.kind = .function) (N : News h₀ L s.heap news) (hd : dp + sz < recursionLimit) (hu : un + 8 * sz + 200 < cLine)
    (ret : ∀ r h' tk', Fr h₀ L h' m → ∀ (tl : Led) (x : Str), (∀ q ∈ nz, ∀ p ∈ tl, p.1 ≠ q.1) → Nd tl r (.leaf x) → cls x = .word → (Tm.leaf x).Good → handedIn r = true → News h₀ L h' (tl ++ nz) → Q r { s with heap := h', toks := tk' }) :
    wpAny (model PySem.Challenge.rw_pb0356_01.row.prog w) (ktrTop dp un gd cn cs L a ccd cl outer) (call (.ref f) vs) Q E s :=
  R.use B F X N T hk hd hu fun r n h t p F N => by
    obtain ⟨tl, x, rfl, Y, D, c, G, v⟩ := p
    exact ret r h t F tl x Y D c G v N
noncomputable def varNames : List Str := [S "i", S "j", S "k", S "p", S "q", S "r", S "s", S "t", S "u"]
theorem var_facts : ∀ x ∈ varNames, cls x = .word ∧ 1 ≤ x.length ∧ x.length ≤ 10 ∧ x.cps.all Unicode.isAlnum = true ∧ PyData.strOk x = true := by decide +kernel
noncomputable def Vin (k : Str) : Prop := k = S "i" ∨ k = S "b" ∨ k = S "s"
noncomputable def Fre (tl news : Led) : Prop := ∀ q ∈ news, ∀ p ∈ tl, p.1 ≠ q.1
theorem Fre.nil {news : Led} : Fre [] news := fun _ _ _ h => nomatch h
theorem Fre.cons {x : Addr} {o : Obj} {tl news : Led} (h : AllLt x (tl ++ news)) (F : Fre tl news) : Fre ((x, o) :: tl) news := fun q hq => List.forall_mem_cons.mpr ⟨Nat.ne_of_gt (ktn_ltOf h q (List.mem_append_right _ hq)), F q hq⟩
theorem Fre.cons' {x : Addr} {o : Obj} {tl news : Led} (h : ∀ q ∈ tl ++ news, q.1 < x) (F : Fre tl news) : Fre ((x, o) :: tl) news := fun q hq => List.forall_mem_cons.mpr ⟨Nat.ne_of_gt (h q (List.mem_append_right _ hq)), F q hq⟩
theorem Fre.app {t tl news : Led} (Y : Fre t (tl ++ news)) (F : Fre tl news) : Fre (t ++ tl) news := fun q hq p hp => (List.mem_append.mp hp).elim (Y q (List.mem_append_right _ hq) p) (F q hq p)
structure Among (x : Str) (xs : List Str) : Prop where
  h : x ∈ xs
theorem row_pick {prog : Program} {w : World} {A : Around} {E : Value → Shared → Prop} {s : Shared} {h₀ : Heap} {L a : Addr} {news : Led} {vs : List Value} {n : Nat} {Q : Value → Shared → Prop} {value slice : Expr} {k : Int} {u : Tok} {xs : List Str} (N : News h₀ L s.heap news) (ma : (a, W.listOf vs.toArray n) ∈ news) (hI : StrVals vs xs) (h0 : 0 ≤ k) (h1 : k < xs.length) (hz : xs.length ≤ 50) (h : ∀ x t, Among x xs → Q (.str x t) s)
    (hs : subscripted slice false (.ref a) (.int k u) = operate [.ref a, .int k u] (getItem (.ref a) (.int k u)) := by with_unfolding_all rfl) : wpAny (model prog w) A (subscriptTail value slice (.ref a) (.int k u)) Q E s := by
  have hL : s.heap.IsList a vs.toArray := News.isList N ma
  have get : ∀ (vs : List Value) (xs : List Str), StrVals vs xs → ∀ i, i < xs.length → ∃ x t, x ∈ xs ∧ vs[i]? = some (.str x t) := by
    intro vs xs S
    induction S with
    | nil => intro i hi; exact absurd hi (Nat.not_lt_zero i)
    | cons r ih =>
      rename_i vs x t xs
      intro i hi
      cases i with
      | zero => exact ⟨x, t, .head _, rfl⟩
      | succ i => obtain ⟨y, u, m, e⟩ := ih i (by simpa using hi); exact ⟨y, u, .tail _ m, by simpa using e⟩
  obtain ⟨x, t, m, e⟩ := get vs xs hI k.toNat (by lia)
  exact tail_any hL.typeIs slot_list_getitem.lookup (wpAny_getItem_list hL h0 (by lia) (by simpa using e) (h x t ⟨m⟩)) hs
section T_G3
section
local macro_rules | `(tactic| ktr_room) => `(tactic| exact rm0 (by assumption))
local macro_rules | `(tactic| ktr_units) => `(tactic| exact rm1 (by assumption))
local macro_rules | `(tactic| k_ne) => `(tactic| ((try dsimp only); first | with_reducible assumption | exact Nat.ne_of_gt (by simp only [*]) | exact Nat.ne_of_lt (by simp only [*])))
local macro_rules | `(tactic| k_mem) => `(tactic| first | assumption | exact List.mem_cons_self | (refine' List.mem_cons_of_mem _ ?_; k_mem) | (refine' List.mem_append_left _ ?_; k_mem) | (refine' List.mem_append_right _ ?_; k_mem))
theorem vfin {news tl8 tl9 : Led} {v ob ty : Value} {x : Str} {xs : List Str} {la : Addr} {na : Nat} {b c d e f : Addr × Obj} (Y8 : Fre tl8 (tl9 ++ (la, W.listOf #[] na) :: b :: c :: d :: e :: f :: news)) (Y9 : Fre tl9 ((la, W.listOf #[] na) :: b :: c :: d :: e :: f :: news)) (F : Fre [(la, W.listOf #[] na), b, c, d, e, f] news)
    (O : ∀ (l : Addr) (kn : Nat) (L0 : Led), (l, W.listOf (List.toArray []) kn) ∈ L0 → l = la → NodeO (tl8 ++ L0) v (S "var") ty [] ob) (Ob : ObjO tl9 ob x) (hx : Among x xs) (hs : ∀ y ∈ xs, y ∈ varNames) (hv : handedIn v = true) : VPost news v (tl8 ++ (tl9 ++ (la, W.listOf #[] na) :: b :: c :: d :: e :: f :: news)) :=
  ⟨tl8 ++ (tl9 ++ [(la, W.listOf #[] na), b, c, d, e, f]), x, by simp, Fre.app (by simpa using Y8) (Fre.app Y9 F), .var (O la na _ (List.mem_append_right _ (.head _)) rfl) (Ob.mono fun p hp => List.mem_append_right _ (List.mem_append_left _ hp)) (var_facts x (hs x hx.h)).1, (var_facts x (hs x hx.h)).1, (var_facts x (hs x hx.h)).2, hv⟩
theorem var_ok (w : World) (news : Led) (ty : Value) (k : Str) (i : Int) (ti tw : Tok) (T : TypesO news ty) (hkk : Vin k) (i0 : 0 ≤ i) (i1 : i < 3) : Runs w 6 news 407 [ty, .str k ti, .int i tw] (VPost news) := by
  obtain ⟨x, dx, es, n, tI, tB, tS, rfl, m1, m2, g1, g2, g3, v1, v2, v3, _, _⟩ := T
  rcases hkk with rfl | rfl | rfl
  all_goals (
  unfold Runs
  w_top off
  k_fill
  intro p loose mean mg mb dp un gd cn cs a ccd cl outer A₀ base h₀ L m s Q E B F X N T hk hd hu hret
  refine wpAny_call ?_
  k_dflt ktr_enter
  repeat' (first | (k_unfold; (try dsimp only)) | (k_end; wrow_close) | ((with_reducible show wpAny _ _ (call (Value.ref _) _ _) _ _ _); first | (k_here; k_dflt (refine' Runs.useN (node5_ok _ _ _ _ _ _ _ _ [] _ ?ml ?vt ?vv) (F := by k_asm) (B := by k_asm) (X := by k_asm) (T := by k_asm) (hk := by first | exact rfl | assumption) (N := ?N) (hd := ?hd) (hu := ?hu) (ret := ?_); (case N => k_asm); (case ml => k_mem); (case vt => assumption); (case vv => assumption); (case hd => first | (show _ + _ < _; lia) | ktr_room); (case hu => ktr_units); intro _ _ _ _ _ _ _ _ _; (try dsimp only); k_sweep)) | (k_here; k_dflt (refine' Runs.useO (obj_ok _ _ _ _ _ _ _ ?vt) (F := by k_asm) (B := by k_asm) (X := by k_asm) (T := by k_asm) (hk := by first | exact rfl | assumption) (N := ?N) (hd := ?hd) (hu := ?hu) (ret := ?_); (case vt => assumption); (case N => k_asm); (case hd => first | (show _ + _ < _; lia) | ktr_room); (case hu => ktr_units); intro _ _ _ _ _ _ _ _ _; (try dsimp only); k_sweep))) | ((with_reducible show wpAny _ _ (subscriptTail _ _ _ _) _ _ _); first | (k_here; (with_reducible refine' row_pick ?N ?ma ?I ?a ?b ?z ?_); k_dflt (skip; (case N => k_asm); (case ma => k_mem); (case I => first | exact .nil | exact .cons .nil | exact .cons (.cons .nil) | exact .cons (.cons (.cons .nil))); (case a => assumption); (case b => assumption); (case z => decide)); intro _ _ _)) | ((with_reducible show wpAny _ _ (getAttr (Value.ref _) _ _) _ _ _); first | (k_here; k_dflt (refine' get_own ?k1 ?k2 ?k3 ?k4 ?k5 ?k6 ?k7 ?k8 ?k9 ?_; (case k1 => k_asm); (case k2 => k_asm); (case k3 => k_inst); (case k4 => k_is); (case k5 => k_is); (case k6 => k_is); (case k7 => k_is); (case k8 => assumption); (case k9 => first | rfl | assumption); k_whole))) | walk1 | (dsimp only; walk1) | (leave1; walk_say "STEP leave1"; try dsimp only) | fail "no step"))
  all_goals (
  refine hret _ _ _ _ (vfin (by assumption) (by assumption) (Fre.cons (by assumption) (Fre.cons (by assumption) (Fre.cons (by assumption) (Fre.cons (by assumption) (Fre.cons (by assumption) (Fre.cons' (by assumption) Fre.nil)))))) (by assumption) (by assumption) (by assumption) ?hs9 (by assumption)) (by assumption) (by assumption)
  case hs9 => decide +kernel)
end
end T_G3
section T_G4
noncomputable def szB : Nat → Nat
  | 0 => 1
  | d + 1 => 3 + 4 * szB d
/-- the hand's figures -/
structure HOk (len : Nat) (i j k n : Int) : Prop where
  i0 : 0 ≤ i
  i1 : i ≤ len
  j0 : 0 ≤ j
  k0 : 0 ≤ k
  k1 : k < 2147483647
  n0 : 0 ≤ n
  n1 : n ≤ 10
noncomputable def Tm.ops : Tm → Nat
  | .leaf _ => 0
  | .neg a => a.ops + 1
  | .nt a => a.ops + 1
  | .bin _ a b => a.ops + b.ops + 1
  | .set0 => 1
  | .set1 p => p.ops + 1
  | .set2 p q => p.ops + q.ops + 1
  | .one a => a.ops
  | .rng a b => a.ops + b.ops
noncomputable def handO (cells : Addr) (i j k n : Int) (t1 t2 t3 t4 : Tok) (c : Nat) : Obj := W.listOf #[.ref cells, .int i t1, .int j t2, .int k t3, .int n t4] c
structure Cells (fz : Led) (ha cells : Addr) (cv : List Value) : Prop where
  ns : ∃ ns cn, (cells, W.listOf cv.toArray cn) ∈ fz ∧ IntsAre cv ns
  le : cv.length ≤ 63
theorem Cells.mono {fz fz' : Led} {ha cells : Addr} {cv : List Value} (h : Cells fz ha cells cv) (s : ∀ p ∈ fz, p ∈ fz') : Cells fz' ha cells cv := ⟨by obtain ⟨a, b, c, d⟩ := h.ns; exact ⟨a, b, s _ c, d⟩, h.le⟩
structure TFacts (T : Tm) (d : Nat) (n n' : Int) : Prop where
  wf : T.Wf false
  good : T.Good
  sz : T.sz ≤ szB d
  dep : T.dep ≤ 2 * d
  ops : (T.ops : Int) + n' ≤ n
structure Base (bz fz : Led) : Prop where
  s : ∀ p ∈ bz, p ∈ fz
theorem Base.mono {bz fz fz' : Led} (h : Base bz fz) (s : ∀ p ∈ fz, p ∈ fz') : Base bz fz' := ⟨fun p hp => s p (h.s p hp)⟩
inductive TPost (bz fz : Led) (ha cells : Addr) (cv : List Value) (n : Int) (d : Nat) (r : Value) (news' : Led) : Prop
  | mk (tl : Led) (i : Int) (j : Int) (k : Int) (n' : Int) (t1 : Tok) (t2 : Tok) (t3 : Tok) (t4 : Tok) (c : Nat) (T : Tm) : news' = (ha, W.listOf #[.ref cells, .int i t1, .int j t2, .int k t3, .int n' t4] c) :: (tl ++ fz) → HOk cv.length i j k n' → Fre tl fz → (∀ p ∈ tl, p.1 ≠ ha) → Nd (tl ++ bz) r T → TFacts T d n n' → handedIn r = true → TPost bz fz ha cells cv n d r news'
theorem Runs.useT {w : World} {sz : Nat} {news : Led} {f : Addr} {vs : List Value} {bz fz : Led} {ha cells : Addr} {cv : List Value} {n : Int} {d : Nat} (R : Runs w sz news f vs (TPost bz fz ha cells cv n d))
    {p : Program} {loose : List Str} {mean : ExcName → Option Value} {mg mb : Str → Option Value} {dp un : Nat} {gd : Option (List Code)} {cn : Str} {cs : Scope} {a : Addr} {ccd : Value} {cl : List (Str × Addr)} {outer : List Env} {A₀ : Around} {base h₀ : Heap} {L : Addr} {m : Str → Option Value} {s : Shared}
    {Q E : Value → Shared → Prop}
    (F : Fr h₀ L s.heap m) (B : Below A₀ base outer h₀) (X : (hd.heap_39 w.params).In h₀) (T : Top p loose mean mg mb h₀) (hk : cs.kind = .function) (N : News h₀ L s.heap news) (hd : dp + sz < recursionLimit) (hu : un + 8 * sz + 200 < cLine)
    (ret : ∀ r h' tk', Fr h₀ L h' m → ∀ (tl : Led) (i j k n' : Int) (t1 t2 t3 t4 : Tok) (c : Nat) (U : Tm), HOk cv.length i j k n' → Fre tl fz → (∀ p ∈ tl, p.1 ≠ ha) → Nd (tl ++ bz) r U → TFacts U d n n' → handedIn r = true → News h₀ L h' ((ha, W.listOf #[.ref cells, .int i t1, .int j t2, .int k t3, .int n' t4] c) :: (tl ++ fz)) → Q r { s with heap := h', toks := tk' }) :
    wpAny (model PySem.Challenge.rw_pb0356_01.row.prog w) (ktrTop dp un gd cn cs L a ccd cl outer) (call (.ref f) vs) Q E s :=
  R.use B F X N T hk hd hu fun r n h t p F N => by
    obtain ⟨tl, i, j, k, n', t1, t2, t3, t4, c, U, rfl, H, Y, Z, D, G, v⟩ := p
    exact ret r h t F tl i j k n' t1 t2 t3 t4 c U H Y Z D G v N
noncomputable def TOk (w : World) (d : Nat) : Prop := ∀ (bz fz : Led) (ha cells : Addr) (cv : List Value) (ty : Value) (kk : Str) (i j k n deep : Int) (t1 t2 t3 t4 tk td : Tok) (c : Nat), (∀ p ∈ fz, p.1 ≠ ha) → Cells fz ha cells cv → Base bz fz → TypesO bz ty → Vin kk → HOk cv.length i j k n → deep = (d : Int) →
  Runs w (6 * d + 10) ((ha, W.listOf #[.ref cells, .int i t1, .int j t2, .int k t3, .int n t4] c) :: fz) 412 [.ref ha, ty, .str kk tk, .int deep td] (TPost bz fz ha cells cv n d)
theorem TOk.run {w : World} {dn : Nat} (P : dn ≠ 0 → TOk w (dn - 1)) (hne : dn ≠ 0) {bz fz : Led} {ha cells : Addr} {cv : List Value} {ty : Value} {kk : Str} {i j k n deep : Int} {t1 t2 t3 t4 tk td : Tok} {c : Nat} (hz : ∀ p ∈ fz, p.1 ≠ ha) (C : Cells fz ha cells cv) (H : HOk cv.length i j k n) (Bs : Base bz fz) (Ty : TypesO bz ty) (V : Vin kk) (e : deep = ((dn - 1 : Nat) : Int)) :
    Runs w (6 * (dn - 1) + 10) ((ha, W.listOf #[.ref cells, .int i t1, .int j t2, .int k t3, .int n t4] c) :: fz) 412 [.ref ha, ty, .str kk tk, .int deep td] (TPost bz fz ha cells cv n (dn - 1)) := P hne bz fz ha cells cv ty kk i j k n deep t1 t2 t3 t4 tk td c hz C Bs Ty V H e
inductive PkPost (fz : Led) (ha cells : Addr) (cv : List Value) (n : Int) (lim : Int) (r : Value) (news' : Led) : Prop
  | mk (i : Int) (j : Int) (k : Int) (d : Int) (t1 : Tok) (t2 : Tok) (t3 : Tok) (t4 : Tok) (t5 : Tok) (c : Nat) : news' = (ha, W.listOf #[.ref cells, .int i t1, .int j t2, .int k t3, .int n t4] c) :: fz → r = .int d t5 → HOk cv.length i j k n → 0 ≤ d → d < lim → PkPost fz ha cells cv n lim r news'
theorem Runs.usePk {w : World} {sz : Nat} {news : Led} {f : Addr} {vs : List Value} {fz : Led} {ha cells : Addr} {cv : List Value} {n lim : Int} (R : Runs w sz news f vs (PkPost fz ha cells cv n lim))
    {p : Program} {loose : List Str} {mean : ExcName → Option Value} {mg mb : Str → Option Value} {dp un : Nat} {gd : Option (List Code)} {cn : Str} {cs : Scope} {a : Addr} {ccd : Value} {cl : List (Str × Addr)} {outer : List Env} {A₀ : Around} {base h₀ : Heap} {L : Addr} {m : Str → Option Value} {s : Shared}
    {Q E : Value → Shared → Prop}
    (F : Fr h₀ L s.heap m) (B : Below A₀ base outer h₀) (X : (hd.heap_39 w.params).In h₀) (T : Top p loose mean mg mb h₀) (hk : cs.kind = .function) (N : News h₀ L s.heap news) (hd : dp + sz < recursionLimit) (hu : un + 8 * sz + 200 < cLine)
    (ret : ∀ h' tk', Fr h₀ L h' m → ∀ (i j k d : Int) (t1 t2 t3 t4 t5 : Tok) (c : Nat), HOk cv.length i j k n → 0 ≤ d → d < lim → News h₀ L h' ((ha, W.listOf #[.ref cells, .int i t1, .int j t2, .int k t3, .int n t4] c) :: fz) → Q (.int d t5) { s with heap := h', toks := tk' }) :
    wpAny (model PySem.Challenge.rw_pb0356_01.row.prog w) (ktrTop dp un gd cn cs L a ccd cl outer) (call (.ref f) vs) Q E s :=
  R.use B F X N T hk hd hu fun r n h t p F N => by
    obtain ⟨i, j, k, d, t1, t2, t3, t4, t5, c, rfl, rfl, H, l, m'⟩ := p
    exact ret h t F i j k d t1 t2 t3 t4 t5 c H l m' N
theorem pick_h (w : World) {fz : Led} {ha cells : Addr} {cv : List Value} {i j k n lim : Int} {t1 t2 t3 t4 tl : Tok} {c : Nat} (hz : ∀ p ∈ fz, p.1 ≠ ha) (C : Cells fz ha cells cv) (H : HOk cv.length i j k n) (l0 : 2 ≤ lim) (l1 : lim ≤ 12) :
    Runs w 1 ((ha, W.listOf #[.ref cells, .int i t1, .int j t2, .int k t3, .int n t4] c) :: fz) 400 [.ref ha, .int lim tl] (PkPost fz ha cells cv n lim) := by
  obtain ⟨ns, cn, hc, hI⟩ := C.ns
  intro p loose mean mg mb dp un gd cn' cs a ccd cl outer A₀ base h₀ L m s Q E B F X N T hk hd hu hret
  refine pick_ok w fz ha cells cv ns cn c i j k n lim t1 t2 t3 t4 tl hz hc hI C.le H.i0 H.i1 H.j0 H.k0 H.k1 l0 l1 p loose mean mg mb dp un gd cn' cs a ccd cl outer A₀ base h₀ L m s Q E B F X N T hk hd hu ?_
  intro r news' h' tk' P F' N'
  obtain ⟨i', j', k', d, u1, u2, u3, u4, u5, c', e, e', a1, a2, a3, a4, a5, a6, a7⟩ := P
  exact hret r news' h' tk' ⟨i', j', k', d, u1, u2, u3, u4, u5, c', e, e', ⟨a1, a2, a3, a4, a5, H.n0, H.n1⟩, a6, a7⟩ F' N'
theorem fre_ne {tl news : Led} {q : Addr} {oq : Obj} (Y : Fre tl news) (m : (q, oq) ∈ news) : ∀ p ∈ tl, p.1 ≠ q := Y _ m
theorem ne_l1 {x y : Addr} {Q : Prop} (h : y < x ∧ Q) : x ≠ y := Nat.ne_of_gt h.1
theorem ne_l2 {x y : Addr} {P Q : Prop} (h : P ∧ y < x ∧ Q) : x ≠ y := Nat.ne_of_gt h.2.1
theorem ne_l3 {x y : Addr} {P R Q : Prop} (h : P ∧ R ∧ y < x ∧ Q) : x ≠ y := Nat.ne_of_gt h.2.2.1
theorem ne_c {x y : Addr} {o : Obj} {l : Led} (h : ∀ p ∈ (y, o) :: l, p.1 < x) : x + 1 ≠ y ∧ x + 1 + 1 ≠ y ∧ x + 1 + 1 + 1 ≠ y := by
  have : y < x := h _ (.head _)
  have e : ∀ k, x + k ≠ y := fun k e => by
    have : x ≤ x + k := Nat.le_add_right x k
    rw [e] at this
    exact absurd ‹y < x› (Nat.not_lt.mpr this)
  exact ⟨e 1, e 2, e 3⟩
theorem News.sw3 {h₀ h : Heap} {L : Addr} {a b c : Addr × Obj} {l : Led} (N : News h₀ L h (a :: b :: c :: l)) : News h₀ L h (c :: a :: b :: l) := fun p hp => N p ((List.perm_middle (l₁ := [a, b])).symm.subset hp)
theorem News.sw4 {h₀ h : Heap} {L : Addr} {a b c d : Addr × Obj} {l : Led} (N : News h₀ L h (a :: b :: c :: d :: l)) : News h₀ L h (d :: a :: b :: c :: l) := fun p hp => N p ((List.perm_middle (l₁ := [a, b, c])).symm.subset hp)
theorem app_sub {l a b : Led} (h : ∀ p ∈ a, p ∈ b) : ∀ p ∈ l ++ a, p ∈ l ++ b := fun p hp => List.mem_append.mpr ((List.mem_append.mp hp).imp id (h p))
theorem con_sub {x : Addr × Obj} {a b : Led} (h : ∀ p ∈ a, p ∈ b) : ∀ p ∈ x :: a, p ∈ x :: b := fun p hp => List.mem_cons.mpr ((List.mem_cons.mp hp).imp id (h p))
theorem sub3 {a b c : Addr × Obj} {l : Led} : ∀ p ∈ l, p ∈ a :: b :: c :: l := fun _ h => .tail _ (.tail _ (.tail _ h))
theorem HOk.dec {len : Nat} {i j k n : Int} (H : HOk len i j k n) (h : n ≠ 0) : HOk len i j k (n - 1) :=
  have a := H.n0
  have b := H.n1
  ⟨H.i0, H.i1, H.j0, H.k0, H.k1, by lia, Int.le_trans (Int.sub_le_self n (by decide)) b⟩
theorem compEnd_hand {h₀ : Heap} {L I C D ha : Addr} {m : Str → Option Value} {s₁ : Shared} {oI oC oD H : Obj} {S : Led → Prop} {rest : Value → Led → Prop} {y : Value} {h' : Heap} {tk : Nat} {tl nr : Led}
    (F : Fr h₀ L h' m) (N : News h₀ L h' ((ha, H) :: (tl ++ ((I, oI) :: (C, oC) :: (D, oD) :: nr)))) (off : LCg.Off3 I C D ((ha, H) :: nr)) (Y : Fre tl ((I, oI) :: (C, oC) :: (D, oD) :: nr)) (hS : S ((ha, H) :: (tl ++ nr))) (r : rest y ((ha, H) :: (tl ++ nr))) :
    LCg.CompEnd h₀ L m s₁ I oI C oC D oD S rest y { s₁ with heap := h', toks := tk } :=
  have hx : ∀ p ∈ (ha, H) :: nr, p.1 ≠ I ∧ p.1 ≠ C ∧ p.1 ≠ D := LCg.Off3.mem off
  LCg.CompEnd.intro F N ((ha, H) :: (tl ++ nr)) (List.forall_mem_cons.mpr ⟨.tail _ (List.mem_append_right _ (.head _)), List.forall_mem_cons.mpr ⟨.tail _ (List.mem_append_right _ (.tail _ (.head _))), List.forall_mem_cons.mpr ⟨.tail _ (List.mem_append_right _ (.tail _ (.tail _ (.head _)))), con_sub (app_sub sub3)⟩⟩⟩) (LCg.Off3.of (List.forall_mem_cons.mpr ⟨hx (ha, H) (.head _), List.forall_mem_append.mpr ⟨fun p q => ⟨Y _ (.head _) p q, Y _ (.tail _ (.head _)) p q, Y _ (.tail _ (.tail _ (.head _))) p q⟩, fun p q => hx p (.tail _ q)⟩⟩)) hS r
theorem room_k {dn x : Nat} (h : x ≤ 9) : x + 1 ≤ 6 * dn + 10 := Nat.le_trans (Nat.succ_le_succ h) (Nat.le_add_left 10 _)
theorem dn_ne {dn : Nat} {deep : Int} (e : deep = (dn : Int)) (h : ¬ deep = 0) : dn ≠ 0 := fun q => h (by rw [e, q]; rfl)
theorem dn_room {dn : Nat} {deep : Int} (e : deep = (dn : Int)) (h : ¬ deep = 0) : 6 * (dn - 1) + 10 + 1 ≤ 6 * dn + 10 := by
  cases dn with
  | zero => exact absurd rfl (dn_ne e h)
  | succ d => exact Nat.add_le_add_left (show 11 ≤ 16 by decide) (6 * d)
theorem dn_d9 {dn : Nat} {deep : Int} (e : deep = (dn : Int)) (h : ¬ deep = 0) : deep - 1 = ((dn - 1 : Nat) : Int) := by
  cases dn with
  | zero => exact absurd rfl (dn_ne e h)
  | succ d => rw [e]; lia
theorem off1_mem {D : Addr} {l : Led} (x : LCg.Off1 D l) : ∀ p ∈ l, p.1 ≠ D := by
  induction l with
  | nil => exact fun _ h => nomatch h
  | cons a l ih => exact List.forall_mem_cons.mpr ⟨x.1, ih x.2⟩
theorem szB_pos (d : Nat) : 1 ≤ szB d := by
  cases d with
  | zero => exact Nat.le_refl _
  | succ d => exact Nat.le_trans (by decide) (Nat.le_add_right 3 _)
theorem tf_leaf {x : Str} {d : Nat} {n : Int} (w : cls x = .word) (g : (Tm.leaf x).Good) : TFacts (.leaf x) d n n :=
  ⟨w, g, szB_pos d, Nat.zero_le _, Int.le_of_eq (Int.zero_add n)⟩
theorem sz_two {x y B : Nat} (h : x ≤ B) (k : y ≤ B) : x + y + 1 ≤ 3 + 4 * B := by lia
theorem op_two {x y : Nat} {n n1 n' : Int} (h : (x : Int) + n1 ≤ n - 1) (k : (y : Int) + n' ≤ n1) : ((x + y + 1 : Nat) : Int) + n' ≤ n := by lia
theorem op_one {x : Nat} {n n' : Int} (h : (x : Int) + n' ≤ n - 1) : ((x + 1 : Nat) : Int) + n' ≤ n := op_two (x := x) (y := 0) h (Int.le_of_eq (Int.zero_add _))
theorem tf_neg {T : Tm} {d : Nat} {n n' : Int} (h : d ≠ 0) (G : TFacts T (d - 1) (n - 1) n') : TFacts (.neg T) d n n' := by
  cases d with
  | zero => exact absurd rfl h
  | succ d => exact ⟨G.wf, G.good, sz_two (y := 0) G.sz (Nat.zero_le _), Nat.succ_le_succ (Nat.le_succ_of_le G.dep), op_one G.ops⟩
theorem tf_nt {T : Tm} {d : Nat} {n n' : Int} (h : d ≠ 0) (G : TFacts T (d - 1) (n - 1) n') : TFacts (.nt T) d n n' :=
  have K := tf_neg h G
  ⟨K.wf, K.good, K.sz, K.dep, K.ops⟩
theorem tf_bin {T U : Tm} {d : Nat} {n n1 n' : Int} {op o : Str} (h : d ≠ 0) (hb : isBin o) (ho : (op, o) ∈ binTab) (G : TFacts T (d - 1) (n - 1) n1) (K : TFacts U (d - 1) n1 n') : TFacts (.bin o T U) d n n' := by
  cases d with
  | zero => exact absurd rfl h
  | succ d => exact ⟨⟨hb, G.wf, K.wf⟩, ⟨⟨op, ho⟩, G.good, K.good⟩, sz_two G.sz K.sz, Nat.succ_le_succ (Nat.le_succ_of_le (Nat.max_le.mpr ⟨G.dep, K.dep⟩)), op_two G.ops K.ops⟩
theorem bool_word {i : Int} : cls (boolText i) = .word ∧ (Tm.leaf (boolText i)).Good := by
  have q : ∀ x ∈ [S "TRUE", S "FALSE"], cls x = .word ∧ 1 ≤ x.length ∧ x.length ≤ 10 ∧ x.cps.all Unicode.isAlnum = true ∧ PyData.strOk x = true := by decide +kernel
  have e : boolText i ∈ [S "TRUE", S "FALSE"] := by
    by_cases h : i = 1
    · exact (if_pos h : boolText i = _) ▸ .head _
    · exact (if_neg h : boolText i = _) ▸ .tail _ (.head _)
  exact q _ e
theorem ne_o {x I C D : Addr} {Q : Prop} (h : (x ≠ I ∧ x ≠ C ∧ x ≠ D) ∧ Q) : I ≠ x ∧ C ≠ x ∧ D ≠ x := ⟨h.1.1.symm, h.1.2.1.symm, h.1.2.2.symm⟩
structure LeafMark (P P' : Prop) : Prop where
  t : True
theorem or_cut {M : Model} {A : Around} {E : Value → Shared → Prop} {s : Shared} {e : Expr} {env : Env} {wh : Sem Value} {Q : Bool → Shared → Prop} {P P' : Prop} (_ : LeafMark P P')
    (h : wpAny M A (isTrue e env wh) (fun b s' => (b = false → P ∧ P') ∧ ∃ tk, s' = { s with toks := tk }) E s) (k1 : ∀ tk, Q true { s with toks := tk }) (k2 : P → P' → ∀ tk, Q false { s with toks := tk }) : wpAny M A (isTrue e env wh) Q E s :=
  wpAny_mono h (by
    rintro b s' ⟨hp, tk, rfl⟩
    cases b with
    | true => exact k1 tk
    | false => exact k2 (hp rfl).1 (hp rfl).2 tk) (fun _ _ h => h)
theorem Fre.sub {tl a b : Led} (h : Fre tl a) (s : ∀ p ∈ b, p ∈ a) : Fre tl b := fun q hq p hp => h q (s q hq) p hp
theorem szB_up {d : Nat} (h : d ≠ 0) : szB d = 3 + 4 * szB (d - 1) := by
  cases d with
  | zero => exact absurd rfl h
  | succ d => rfl
noncomputable def allBin : List Str := binTab.map Prod.fst
theorem bin_of {x : Str} (h : x ∈ allBin) : ∃ o, (x, o) ∈ binTab ∧ isBin o := by
  have q : ∀ p ∈ binTab, (cls p.2 = .mul ∨ cls p.2 = .plus ∨ cls p.2 = .minus ∨ cls p.2 = .rel) := by decide +kernel
  obtain ⟨p, hp, rfl⟩ := List.mem_map.mp h
  exact ⟨p.2, hp, q p hp⟩
theorem int_word {i : Int} (h0 : 0 ≤ i) (h1 : i < 12) : cls (intText i) = .word ∧ (Tm.leaf (intText i)).Good := by
  have q : ∀ k : Fin 12, cls (intText (k.val : Int)) = .word ∧ 1 ≤ (intText (k.val : Int)).length ∧ (intText (k.val : Int)).length ≤ 10 ∧ (intText (k.val : Int)).cps.all Unicode.isAlnum = true ∧ PyData.strOk (intText (k.val : Int)) = true := by decide +kernel
  have e : i = ((⟨i.toNat, by omega⟩ : Fin 12).val : Int) := by simp only []; omega
  rw [e]; exact ⟨(q _).1, (q _).2⟩
section
variable {bz fz : Led} {ha cells : Addr} {cv : List Value} {n n' : Int} {dn : Nat} {r ty val : Value} {op : Str} {T : Tm} {i j k : Int} {t1 t2 t3 t4 : Tok} {c kn : Nat} {h₀ h' : Heap} {L lk : Addr} {m : Str → Option Value} {P : Value → Led → Heap → Nat → Prop} {tk : Nat} {tl8 tx led led8 : Led} {kids : List Value}
theorem end_var (ret : ∀ r news' h' tk', TPost bz fz ha cells cv n dn r news' → Fr h₀ L h' m → News h₀ L h' news' → P r news' h' tk') (F : Fr h₀ L h' m) {x : Str}
    (N : News h₀ L h' (tl8 ++ (ha, W.listOf #[.ref cells, .int i t1, .int j t2, .int k t3, .int n t4] c) :: led)) (s : ∀ p ∈ fz, p ∈ led) (H : HOk cv.length i j k n)
    (Y : Fre tl8 ((ha, W.listOf #[.ref cells, .int i t1, .int j t2, .int k t3, .int n t4] c) :: led)) (D : Nd tl8 r (.leaf x)) (w : cls x = .word) (g : (Tm.leaf x).Good) (v : handedIn r = true) : P r ((ha, W.listOf #[.ref cells, .int i t1, .int j t2, .int k t3, .int n t4] c) :: (tl8 ++ fz)) h' tk :=
  ret _ _ _ _ ⟨tl8, i, j, k, n, t1, t2, t3, t4, c, .leaf x, rfl, H, fun q hq => Y q (.tail _ (s q hq)), Y _ (.head _), D.mono (fun _ h => List.mem_append_left _ h), tf_leaf w g, v⟩ F (News.sub N fun p hp => app_sub (con_sub s) p (List.perm_middle.symm.subset hp))
theorem end_node (ret : ∀ r news' h' tk', TPost bz fz ha cells cv n dn r news' → Fr h₀ L h' m → News h₀ L h' news' → P r news' h' tk') (F : Fr h₀ L h' m) (tx : Led)
    (N : News h₀ L h' (tl8 ++ led)) (s : ∀ p ∈ (lk, W.listOf (List.toArray kids) kn) :: (ha, W.listOf #[.ref cells, .int i t1, .int j t2, .int k t3, .int n' t4] c) :: (tx ++ fz), p ∈ led) (H : HOk cv.length i j k n')
    (Y8 : Fre tl8 led) (o1 : ha ≠ lk) (o2 : ∀ p ∈ fz, p.1 ≠ lk) (Yx : Fre tx fz) (Zx : ∀ p ∈ tx, p.1 ≠ ha)
    (O : ∀ (l : Addr) (kn : Nat) (L0 : Led), (l, W.listOf (List.toArray kids) kn) ∈ L0 → l = lk → NodeO (tl8 ++ L0) r op ty kids val) (hT : ∀ L, (∀ p ∈ tx ++ bz, p ∈ L) → NodeO L r op ty kids val → Nd L r T) (G : TFacts T dn n n') (v : handedIn r = true) :
    P r ((ha, W.listOf #[.ref cells, .int i t1, .int j t2, .int k t3, .int n' t4] c) :: ((tl8 ++ (lk, W.listOf (List.toArray kids) kn) :: tx) ++ fz)) h' tk := by
  refine ret _ _ _ _ ⟨tl8 ++ (lk, W.listOf (List.toArray kids) kn) :: tx, i, j, k, n', t1, t2, t3, t4, c, T, rfl, H, ?_, ?_, ?_, G, v⟩ F (News.sub N ?_)
  · exact fun q hq => List.forall_mem_append.mpr ⟨Y8 q (s q (.tail _ (.tail _ (List.mem_append_right _ hq)))), List.forall_mem_cons.mpr ⟨(o2 q hq).symm, Yx q hq⟩⟩
  · exact List.forall_mem_append.mpr ⟨Y8 (ha, W.listOf #[.ref cells, .int i t1, .int j t2, .int k t3, .int n' t4] c) (s _ (.tail _ (.head _))), List.forall_mem_cons.mpr ⟨o1.symm, Zx⟩⟩
  · rw [List.append_assoc]
    exact hT _ (fun p hp => List.mem_append_right _ (.tail _ hp)) (O lk kn _ (.head _) rfl)
  · intro p hp
    rw [List.append_assoc] at hp
    exact app_sub (fun p hp => s p ((List.Perm.swap _ _ _).subset hp)) p (List.perm_middle.symm.subset hp)
end
theorem s_un {tx fz : Led} {x y a b c : Addr × Obj} : ∀ p ∈ x :: y :: (tx ++ fz), p ∈ x :: y :: (tx ++ a :: b :: c :: fz) := con_sub (con_sub (app_sub sub3))
theorem s_bin {ta tb fz : Led} {x y z a b c : Addr × Obj} : ∀ p ∈ x :: y :: ((tb ++ ta) ++ fz), p ∈ x :: y :: (tb ++ (ta ++ z :: a :: b :: c :: fz)) := by
  rw [List.append_assoc]; exact con_sub (con_sub (app_sub (app_sub fun p hp => .tail _ (sub3 p hp))))
theorem s_bin0 {ta tb fz : Led} {x y a b c : Addr × Obj} : ∀ p ∈ x :: y :: ((tb ++ ta) ++ fz), p ∈ x :: y :: (tb ++ (ta ++ a :: b :: c :: fz)) := by
  rw [List.append_assoc]; exact con_sub (con_sub (app_sub (app_sub sub3)))
theorem s_c {fz : Led} {x y a b c : Addr × Obj} : ∀ p ∈ x :: y :: ([] ++ fz), p ∈ y :: x :: a :: b :: c :: fz := fun p hp => con_sub (con_sub sub3) p ((List.Perm.swap _ _ _).subset hp)
theorem s3 {fz : Led} {a b c : Addr × Obj} : ∀ p ∈ fz, p ∈ a :: b :: c :: fz := fun _ h => .tail _ (.tail _ (.tail _ h))
theorem s4 {fz : Led} {a b c d : Addr × Obj} : ∀ p ∈ fz, p ∈ a :: b :: c :: d :: fz := fun _ h => .tail _ (.tail _ (.tail _ (.tail _ h)))
theorem s7 {fz : Led} {a b c d e f g : Addr × Obj} : ∀ p ∈ fz, p ∈ a :: b :: c :: d :: e :: f :: g :: fz := fun _ h => .tail _ (.tail _ (.tail _ (.tail _ (.tail _ (.tail _ (.tail _ h))))))
theorem sub_all {x : Str} {xs : List Str} (m : Among x xs) (h : ∀ y ∈ xs, y ∈ allBin) : x ∈ allBin := h x m.h
theorem sub_a {ta tb bz L : Led} (sub : ∀ p ∈ (tb ++ ta) ++ bz, p ∈ L) : ∀ p ∈ ta ++ bz, p ∈ L := fun p hp => sub p (by
  rw [List.append_assoc]; exact List.mem_append_right _ hp)
theorem sub_b {ta tb bz L : Led} (sub : ∀ p ∈ (tb ++ ta) ++ bz, p ∈ L) : ∀ p ∈ tb ++ bz, p ∈ L := fun p hp => sub p (by
  rw [List.append_assoc]; exact app_sub (fun _ h => List.mem_append_right _ h) p hp)
theorem fre_two {ta tb fz : Led} (a : Fre ta fz) (b : Fre tb fz) : Fre (tb ++ ta) fz := fun q hq => List.forall_mem_append.mpr ⟨b q hq, a q hq⟩
end T_G4
section T_G4r
section
variable {prog : Program} {w : World} {A : Around} {E : Value → Shared → Prop} {s : Shared} {env : Env} {h₀ : Heap} {x : Str} {body : List Stmt} {Q : Flow → Shared → Prop}
/-- a turn's end in a loop over a range -/
noncomputable def LEnd (h₀ : Heap) (L : Addr) (s₁ : Shared) (I : Addr) (it : Obj) (Jn : (Str → Option Value) → Led → Prop) (Q : Flow → Shared → Prop) (f : Flow) (s₂ : Shared) : Prop := UnrPost h₀ L s₁ I it Jn Q f s₂
theorem UnrEnd.imp {L I : Addr} {it : Obj} {J J' : (Str → Option Value) → Led → Prop} {s₁ s₂ : Shared} (h : ∀ m news, (∀ p ∈ news, p.1 ≠ I) → J m news → J' m news) : UnrEnd h₀ L s₁ I it J s₂ → UnrEnd h₀ L s₁ I it J' s₂ := by
  rintro ⟨h', tk', m', news', e', F', N', ho, r⟩
  exact ⟨h', tk', m', news', e', F', N', ho, h m' news' ho r⟩
theorem krs_of {I : Addr} {a c : Int} {n : Nat} (J : Nat → (Str → Option Value) → Led → Prop)
    (turn : ∀ i m₁ news₁ t h tk, i < n → J i m₁ news₁ → (∀ p ∈ news₁, p.1 ≠ I) → Fr h₀ env.locals h (fun y => if y = x then some (.int (a + (i : Int) * c) t) else m₁ y) →
      News h₀ env.locals h ((I, krsIt (a + ((i + 1 : Nat) : Int) * c) ((n : Int) - ((i + 1 : Nat) : Int)) c) :: news₁) →
      wpAny (model prog w) A (execs body env) (LEnd h₀ env.locals { s with heap := h, toks := tk } I (krsIt (a + ((i + 1 : Nat) : Int) * c) ((n : Int) - ((i + 1 : Nat) : Int)) c) (J (i + 1)) Q) E { s with heap := h, toks := tk })
    (done : ∀ m₁ news₁ h tk, J n m₁ news₁ → Fr h₀ env.locals h m₁ → News h₀ env.locals h news₁ → Q .next { s with heap := h, toks := tk }) :
    ∀ (k i : Nat) (m : Str → Option Value) (news : Led), i + k = n → (∀ p ∈ news, p.1 ≠ I) → J i m news → KrsRest prog w A E h₀ env x body Q s I a c n k i m news := by
  intro k
  induction k with
  | zero =>
    intro i m news e _ j
    have e : i = n := e
    subst e
    exact fun h tk F N => done m news h tk j F N
  | succ k ih =>
    intro i m news e hI j
    exact fun t h tk F N => wpAny_mono (turn i m news t h tk (e ▸ Nat.lt_add_of_pos_right (Nat.succ_pos k)) j hI F N) (fun f s₂ p => by
      cases f with
      | ret v => exact p
      | brk => exact p
      | next => exact UnrEnd.imp (fun m' news' ho r => ih (i + 1) m' news' ((Nat.succ_add i k).trans e) ho r) p
      | cont => exact UnrEnd.imp (fun m' news' ho r => ih (i + 1) m' news' ((Nat.succ_add i k).trans e) ho r) p) fun _ _ e => e
theorem range_inv {r : Addr} {a₀ b₀ c : Int} {t₀ u₀ v₀ : Tok} {n : Nat} {m₀ : Str → Option Value} {news : Led} (J : Nat → (Str → Option Value) → Led → Prop)
    (hh : A.handled = none) (hr : IsRange s.heap r a₀ b₀ c t₀ u₀ v₀) (hsmall : Builtin.Range.small a₀ b₀ c = true) (hn : Builtin.Range.rangeSize a₀ b₀ c = (n : Int)) (F : Fr h₀ env.locals s.heap m₀) (N : News h₀ env.locals s.heap news) (j : J 0 m₀ news)
    (turn : ∀ I i m₁ news₁ t h tk, i < n → J i m₁ news₁ → (∀ p ∈ news₁, p.1 ≠ I) → Fr h₀ env.locals h (fun y => if y = x then some (.int (a₀ + (i : Int) * c) t) else m₁ y) →
      News h₀ env.locals h ((I, krsIt (a₀ + ((i + 1 : Nat) : Int) * c) ((n : Int) - ((i + 1 : Nat) : Int)) c) :: news₁) →
      wpAny (model prog w) A (execs body env) (LEnd h₀ env.locals { s with heap := h, toks := tk } I (krsIt (a₀ + ((i + 1 : Nat) : Int) * c) ((n : Int) - ((i + 1 : Nat) : Int)) c) (J (i + 1)) Q) E { s with heap := h, toks := tk })
    (done : ∀ m₁ news₁ h tk, J n m₁ news₁ → Fr h₀ env.locals h m₁ → News h₀ env.locals h news₁ → Q .next { s with heap := h, toks := tk }) :
    wpAny (model prog w) A (pyIter (.ref r)) (fun it s₂ => LoopAtV prog w A h₀ env x body Q E it s₂) E s :=
  krs_iter hh hr hsmall hn F N fun I hI => krs_of J (fun i m₁ news₁ t h tk => turn I i m₁ news₁ t h tk) done n 0 m₀ news (Nat.zero_add n) (fun p hp => Nat.ne_of_lt (hI p hp)) j
theorem LEnd.next {L I : Addr} {it : Obj} {Jn : (Str → Option Value) → Led → Prop} {s₁ : Shared} {h' : Heap} {tk : Nat} {m' : Str → Option Value} {all : Led} (news' : Led) (F : Fr h₀ L h' m') (N : News h₀ L h' all) (hI : (I, it) ∈ all) (sub : ∀ p ∈ news', p ∈ all) (off : ∀ p ∈ news', p.1 ≠ I) (j : Jn m' news') :
    LEnd h₀ L s₁ I it Jn Q .next { s₁ with heap := h', toks := tk } :=
  ⟨h', tk, m', news', rfl, F, News.sub N (List.forall_mem_cons.mpr ⟨hI, sub⟩), off, j⟩
end
theorem rangeSize_up (d : Int) : Builtin.Range.rangeSize 0 d 1 = ((d.toNat : Nat) : Int) := by
  unfold Builtin.Range.rangeSize
  simp only [show ((1 : Int) > 0) by decide, if_true, Int.ediv_one]
  split <;> lia
theorem small_up {d : Int} (h0 : 0 ≤ d) (h1 : d < 2 ^ 62) : Builtin.Range.small 0 d 1 = true := by
  unfold Builtin.Range.small
  rw [rangeSize_up]
  simp only [Builtin.Range.rangeFitsLong, Bool.and_eq_true, Bool.or_eq_true, decide_eq_true_eq, beq_iff_eq, show ((1 : Int) > 0) by decide, if_true]
  lia
/-- a piece of a set -/
structure PcF (dn : Nat) (p : Tm) : Prop where
  wf : p.Wf true
  good : p.Good
  sz : p.sz ≤ 1 + 2 * szB (dn - 1)
  dep : p.dep ≤ 2 * (dn - 1) + 1
inductive Pcs (L : Led) (dn : Nat) : List Value → List Tm → Prop
  | nil : Pcs L dn [] []
  | snoc {vs : List Value} {ps : List Tm} {v : Value} {p : Tm} : Pcs L dn vs ps → Nd L v p → PcF dn p → Pcs L dn (vs ++ [v]) (ps ++ [p])
theorem Pcs.mono {L L' : Led} {dn : Nat} {vs : List Value} {ps : List Tm} (s : ∀ p ∈ L, p ∈ L') (h : Pcs L dn vs ps) : Pcs L' dn vs ps := by
  induction h with
  | nil => exact .nil
  | snoc _ N f ih => exact .snoc ih (N.mono s) f
theorem Pcs.len {L : Led} {dn : Nat} {vs : List Value} {ps : List Tm} (h : Pcs L dn vs ps) : vs.length = ps.length := by
  induction h with
  | nil => rfl
  | snoc _ _ _ ih => rw [List.length_append, List.length_append, ih]; rfl
noncomputable def opsOf (ps : List Tm) : Nat := (ps.map Tm.ops).sum
theorem opsOf_snoc (ps : List Tm) (p : Tm) : opsOf (ps ++ [p]) = opsOf ps + p.ops := by unfold opsOf; rw [List.map_append, List.sum_append]; rfl
theorem pc_sz {x y B : Nat} (h : x ≤ B) (k : y ≤ B) : x + y + 1 ≤ 1 + 2 * B := by rw [Nat.add_comm 1, Nat.two_mul]; exact Nat.succ_le_succ (Nat.add_le_add h k)
theorem pc_one {T : Tm} {dn : Nat} {n n' : Int} (G : TFacts T (dn - 1) n n') : PcF dn (.one T) :=
  ⟨G.wf, G.good, pc_sz (y := 0) G.sz (Nat.zero_le _), Nat.succ_le_succ G.dep⟩
theorem pc_rng {T U : Tm} {dn : Nat} {n n1 n' : Int} (G : TFacts T (dn - 1) n n1) (K : TFacts U (dn - 1) n1 n') : PcF dn (.rng T U) :=
  ⟨⟨G.wf, K.wf⟩, ⟨G.good, K.good⟩, pc_sz G.sz K.sz, Nat.succ_le_succ (Nat.max_le.mpr ⟨G.dep, K.dep⟩)⟩
theorem set_sz {x y B : Nat} (h : x ≤ 1 + 2 * B) (k : y ≤ 1 + 2 * B) : x + y + 1 ≤ 3 + 4 * B := by lia
theorem pcs_set {L : Led} {dn : Nat} {vs : List Value} {ps : List Tm} {n n' : Int} (h : dn ≠ 0) (P : Pcs L dn vs ps) (hl : ps.length ≤ 2) (ho : ((opsOf ps : Nat) : Int) + n' ≤ n - 1) :
    ∃ T, (∀ (L' : Led) (r ty : Value), (∀ p ∈ L, p ∈ L') → NodeO L' r (S "set") ty vs .none → Nd L' r T) ∧ TFacts T dn n n' := by
  cases dn with
  | zero => exact absurd rfl h
  | succ d =>
    cases P with
    | nil => exact ⟨.set0, fun _ _ _ _ O => .set0 O, ⟨trivial, trivial, szB_pos _, Nat.zero_le _, op_one (x := 0) ho⟩⟩
    | @snoc vs1 ps1 v1 p1 P1 N1 f1 =>
      cases P1 with
      | nil => exact ⟨.set1 p1, fun L' _ _ s O => .set1 O (N1.mono s), ⟨f1.wf, f1.good, set_sz (y := 0) f1.sz (Nat.zero_le _), Nat.succ_le_succ f1.dep, op_one (x := p1.ops) ho⟩⟩
      | @snoc vs2 ps2 v2 p2 P2 N2 f2 =>
        cases P2 with
        | nil => exact ⟨.set2 p2 p1, fun L' _ _ s O => .set2 O (N2.mono s) (N1.mono s), ⟨⟨f2.wf, f1.wf⟩, ⟨f2.good, f1.good⟩, set_sz f2.sz f1.sz, Nat.succ_le_succ (Nat.max_le.mpr ⟨f2.dep, f1.dep⟩), op_one (x := p2.ops + p1.ops) ho⟩⟩
        | snoc P3 N3 f3 =>
          rw [List.length_append, List.length_append, List.length_append] at hl
          exact absurd (Nat.le_trans (Nat.le_add_left 3 _) hl) (by decide)
inductive SetJ (bz fz : Led) (c1 c2 c3 : Addr × Obj) (ha cells lk : Addr) (cv : List Value) (n : Int) (dn : Nat) (i : Nat) (m₁ : Str → Option Value) (news₁ : Led) : Prop
  | mk (pv : List Value) (ps : List Tm) (pk : Nat) (tl : Led) (i' : Int) (j' : Int) (k' : Int) (n' : Int) (t1 : Tok) (t2 : Tok) (t3 : Tok) (t4 : Tok) (c' : Nat) : m₁ (S "pieces") = some (.ref lk) → news₁ = (lk, W.listOf (List.toArray pv) pk) :: (ha, W.listOf #[.ref cells, .int i' t1, .int j' t2, .int k' t3, .int n' t4] c') :: (tl ++ c1 :: c2 :: c3 :: fz) → HOk cv.length i' j' k' n' → Fre tl (c1 :: c2 :: c3 :: fz) → (∀ p ∈ tl, p.1 ≠ ha) → (∀ p ∈ tl, p.1 ≠ lk) → Pcs (tl ++ bz) dn pv ps → ps.length = i → ((opsOf ps : Nat) : Int) + n' ≤ n - 1 → SetJ bz fz c1 c2 c3 ha cells lk cv n dn i m₁ news₁
theorem setJ_nil {bz fz : Led} {c1 c2 c3 : Addr × Obj} {ha cells lk : Addr} {cv : List Value} {n i' j' k' : Int} {t1 t2 t3 t4 : Tok} {c' pk dn : Nat} {m₁ : Str → Option Value} (hm : m₁ (S "pieces") = some (.ref lk)) (H : HOk cv.length i' j' k' (n - 1)) :
    SetJ bz fz c1 c2 c3 ha cells lk cv n dn 0 m₁ ((lk, W.listOf #[] pk) :: (ha, W.listOf #[.ref cells, .int i' t1, .int j' t2, .int k' t3, .int (n - 1) t4] c') :: c1 :: c2 :: c3 :: fz) :=
  ⟨[], [], pk, [], i', j', k', n - 1, t1, t2, t3, t4, c', hm, rfl, H, Fre.nil, (fun _ h => nomatch h), (fun _ h => nomatch h), .nil, rfl, Int.le_of_eq (Int.zero_add _)⟩
theorem News.sw5 {h₀ h : Heap} {L : Addr} {a b c d e : Addr × Obj} {l : Led} (N : News h₀ L h (a :: b :: c :: d :: e :: l)) : News h₀ L h (e :: a :: b :: c :: d :: l) := fun p hp => N p ((List.perm_middle (l₁ := [a, b, c, d])).symm.subset hp)
theorem off3_sw {I C D : Addr} {a b : Addr × Obj} {l : Led} (h : LCg.Off3 I C D (a :: b :: l)) : LCg.Off3 I C D (b :: a :: l) := ⟨h.2.1, h.1, h.2.2⟩
theorem two_cases {d : Int} (h0 : 0 ≤ d) (h1 : d < 2) : d = 0 ∨ d = 1 := by lia
theorem off1_ne {P : Prop} {x D : Addr} {o : Obj} {l : Led} (h : P ∧ LCg.Off1 D l) (m : (x, o) ∈ l) : D ≠ x := (off1_mem h.2 _ m).symm
theorem store_two {prog : Program} {w : World} {A : Around} {E : Value → Shared → Prop} {s : Shared} {env : Env} {x : Str} {d : Int} {t : Tok} {Q : Unit → Shared → Prop} (h0 : 0 ≤ d) (h1 : d < 2)
    (a : wpAny (model prog w) A (storeName env x (.int 1 t)) Q E s) (b : wpAny (model prog w) A (storeName env x (.int 2 t)) Q E s) : wpAny (model prog w) A (storeName env x (.int (1 + d) t)) Q E s := by
  rcases two_cases h0 h1 with rfl | rfl
  · exact a
  · exact b
theorem op_snoc {x y : Nat} {n n1 n2 : Int} (h : (x : Int) + n1 ≤ n - 1) (k : (y : Int) + n2 ≤ n1) : ((x + y : Nat) : Int) + n2 ≤ n - 1 := by lia
theorem setJ_turn {bz fz tl8 tx tl : Led} {mn c1 c2 c3 : Addr × Obj} {ha cells lk D I : Addr} {it : Obj} {cv kids pv : List Value} {ps : List Tm} {p : Tm} {n n1 n2 i2 j2 k2 : Int} {t1 t2 t3 t4 : Tok} {c kn pk dn ii : Nat} {r ty val : Value} {op : Str} {h₀ h' : Heap} {L : Addr} {m' : Str → Option Value} {s₁ : Shared} {tk : Nat} {Q : Flow → Shared → Prop}
    (N : News h₀ L h' (tl8 ++ (D, W.listOf (List.toArray kids) kn) :: (ha, W.listOf #[.ref cells, .int i2 t1, .int j2 t2, .int k2 t3, .int n2 t4] c) :: (tx ++ mn :: (I, it) :: (lk, W.listOf (List.toArray (pv ++ [r])) (pk + 1)) :: (tl ++ c1 :: c2 :: c3 :: fz))))
    (F : Fr h₀ L h' m') (hm : m' (S "pieces") = some (.ref lk)) (H : HOk cv.length i2 j2 k2 n2) {ol oh ol' oh' oD : Obj}
    (Y8 : Fre tl8 ((D, oD) :: (ha, oh) :: (tx ++ mn :: (I, it) :: (lk, ol) :: (tl ++ c1 :: c2 :: c3 :: fz))))
    (o1 : ha ≠ D ∧ LCg.Off1 D (tx ++ mn :: (I, it) :: (lk, ol) :: (tl ++ c1 :: c2 :: c3 :: fz)))
    (Yx : Fre tx ((I, it) :: (lk, ol) :: (tl ++ c1 :: c2 :: c3 :: fz))) (Zx : ∀ p ∈ tx, p.1 ≠ ha)
    (hI : ∀ p ∈ (lk, ol') :: (ha, oh') :: (tl ++ c1 :: c2 :: c3 :: fz), p.1 ≠ I) (z1 : Fre tl (c1 :: c2 :: c3 :: fz)) (z2 : ∀ p ∈ tl, p.1 ≠ ha) (z3 : ∀ p ∈ tl, p.1 ≠ lk)
    (P1 : Pcs (tl ++ bz) dn pv ps) (z5 : ps.length = ii) (z6 : ((opsOf ps : Nat) : Int) + n1 ≤ n - 1)
    (O : ∀ (l : Addr) (kn : Nat) (L0 : Led), (l, W.listOf (List.toArray kids) kn) ∈ L0 → l = D → NodeO (tl8 ++ L0) r op ty kids val) (hT : ∀ L, (∀ p ∈ tx ++ bz, p ∈ L) → NodeO L r op ty kids val → Nd L r p) (f : PcF dn p) (ho : ((p.ops : Nat) : Int) + n2 ≤ n1) :
    LEnd h₀ L s₁ I it (SetJ bz fz c1 c2 c3 ha cells lk cv n dn (ii + 1)) Q .next { s₁ with heap := h', toks := tk } := by
  have inR : ∀ q ∈ c1 :: c2 :: c3 :: fz, q ∈ tx ++ mn :: (I, it) :: (lk, ol) :: (tl ++ c1 :: c2 :: c3 :: fz) := fun q hq => List.mem_append_right _ (.tail _ (.tail _ (.tail _ (List.mem_append_right _ hq))))
  have inl : (lk, ol) ∈ tx ++ mn :: (I, it) :: (lk, ol) :: (tl ++ c1 :: c2 :: c3 :: fz) := List.mem_append_right _ (.tail _ (.tail _ (.head _)))
  have inI : (I, it) ∈ tx ++ mn :: (I, it) :: (lk, ol) :: (tl ++ c1 :: c2 :: c3 :: fz) := List.mem_append_right _ (.tail _ (.head _))
  refine LEnd.next ((lk, W.listOf (List.toArray (pv ++ [r])) (pk + 1)) :: (ha, W.listOf #[.ref cells, .int i2 t1, .int j2 t2, .int k2 t3, .int n2 t4] c) :: ((tl8 ++ (D, W.listOf (List.toArray kids) kn) :: (tx ++ tl)) ++ c1 :: c2 :: c3 :: fz)) F N ?_ ?_ ?_
    ⟨pv ++ [r], ps ++ [p], pk + 1, tl8 ++ (D, W.listOf (List.toArray kids) kn) :: (tx ++ tl), i2, j2, k2, n2, t1, t2, t3, t4, c, hm, rfl, H, ?_, ?_, ?_, ?_, by rw [List.length_append, z5]; rfl, by rw [opsOf_snoc]; exact op_snoc z6 ho⟩
  · exact List.mem_append_right _ (.tail _ (.tail _ (List.mem_append_right _ (.tail _ (.head _)))))
  · exact List.forall_mem_cons.mpr ⟨List.mem_append_right _ (.tail _ (.tail _ (List.mem_append_right _ (.tail _ (.tail _ (.head _)))))), List.forall_mem_cons.mpr ⟨List.mem_append_right _ (.tail _ (.head _)), List.forall_mem_append.mpr ⟨List.forall_mem_append.mpr ⟨fun _ h => List.mem_append_left _ h,
      List.forall_mem_cons.mpr ⟨List.mem_append_right _ (.head _), List.forall_mem_append.mpr ⟨fun _ h => List.mem_append_right _ (.tail _ (.tail _ (List.mem_append_left _ h))), fun _ h => List.mem_append_right _ (.tail _ (.tail _ (List.mem_append_right _ (.tail _ (.tail _ (.tail _ (List.mem_append_left _ h)))))))⟩⟩⟩,
      fun _ h => List.mem_append_right _ (.tail _ (.tail _ (List.mem_append_right _ (.tail _ (.tail _ (.tail _ (List.mem_append_right _ h)))))))⟩⟩⟩
  · exact List.forall_mem_cons.mpr ⟨hI (lk, ol') (.head _), List.forall_mem_cons.mpr ⟨hI (ha, oh') (.tail _ (.head _)), List.forall_mem_append.mpr ⟨List.forall_mem_append.mpr ⟨Y8 (I, it) (.tail _ (.tail _ inI)),
      List.forall_mem_cons.mpr ⟨(off1_mem o1.2 (I, it) inI).symm, List.forall_mem_append.mpr ⟨Yx (I, it) (.head _), fun q hq => hI q (.tail _ (.tail _ (List.mem_append_left _ hq)))⟩⟩⟩, fun q hq => hI q (.tail _ (.tail _ (List.mem_append_right _ hq)))⟩⟩⟩
  · exact fun q hq => List.forall_mem_append.mpr ⟨Y8 q (.tail _ (.tail _ (inR q hq))), List.forall_mem_cons.mpr ⟨(off1_mem o1.2 q (inR q hq)).symm, List.forall_mem_append.mpr ⟨Yx q (.tail _ (.tail _ (List.mem_append_right _ hq))), z1 q hq⟩⟩⟩
  · exact List.forall_mem_append.mpr ⟨Y8 (ha, oh) (.tail _ (.head _)), List.forall_mem_cons.mpr ⟨o1.1.symm, List.forall_mem_append.mpr ⟨Zx, z2⟩⟩⟩
  · exact List.forall_mem_append.mpr ⟨Y8 (lk, ol) (.tail _ (.tail _ inl)), List.forall_mem_cons.mpr ⟨(off1_mem o1.2 (lk, ol) inl).symm, List.forall_mem_append.mpr ⟨Yx (lk, ol) (.tail _ (.head _)), z3⟩⟩⟩
  · refine .snoc (P1.mono ?_) (hT _ ?_ ?_) f
    · exact List.forall_mem_append.mpr ⟨fun _ h => List.mem_append_left _ (List.mem_append_right _ (.tail _ (List.mem_append_right _ h))), fun _ h => List.mem_append_right _ h⟩
    · exact List.forall_mem_append.mpr ⟨fun _ h => List.mem_append_left _ (List.mem_append_right _ (.tail _ (List.mem_append_left _ h))), fun _ h => List.mem_append_right _ h⟩
    · rw [List.append_assoc]
      exact O D kn _ (.head _) rfl
end T_G4r
section G_G5i
local macro_rules | `(tactic| ktr_room) => `(tactic| exact rm0 (by assumption))
local macro_rules | `(tactic| ktr_units) => `(tactic| exact rm1 (by assumption))
local macro_rules | `(tactic| k_ne) => `(tactic| ((try dsimp only); first | with_reducible assumption | exact Nat.ne_of_gt (by simp only [*]) | exact Nat.ne_of_lt (by simp only [*])))
local macro_rules | `(tactic| k_mem) => `(tactic| first | assumption | exact List.mem_cons_self | (refine' List.mem_cons_of_mem _ ?_; k_mem) | (refine' List.mem_append_left _ ?_; k_mem) | (refine' List.mem_append_right _ ?_; k_mem))
local macro_rules | `(tactic| k_ne) => `(tactic| first | assumption | exact Ne.symm (by assumption) | exact ne_l1 (by assumption) | exact ne_l2 (by assumption) | exact ne_l3 (by assumption) | exact (ne_c (by assumption)).1 | exact (ne_c (by assumption)).2.1 | exact (ne_c (by assumption)).2.2 | exact (ne_o (by assumption)).1 | exact (ne_o (by assumption)).2.1 | exact (ne_o (by assumption)).2.2)
local macro_rules | `(tactic| k_all) => `(tactic| (refine' fre_ne ?Y ?m; (case Y => assumption); (case m => k_mem)))
local macro_rules | `(tactic| k_all) => `(tactic| (refine' all_app ?a ?b; (case a => k_all); (case b => k_all)))
local macro_rules | `(tactic| k_all) => `(tactic| (refine' List.forall_mem_cons.mpr ⟨?a, ?b⟩; (case a => k_ne); (case b => k_all)))
local macro_rules | `(tactic| k_all) => `(tactic| assumption)
local macro_rules | `(tactic| walk_at "getAttr ref") => `(tactic| (k_here; k_dflt (refine' get_own ?k1 ?k2 ?k3 ?k4 ?k5 ?k6 ?k7 ?k8 ?k9 ?_; (case k1 => k_asm); (case k2 => k_asm); (case k3 => k_inst); (case k4 => k_is); (case k5 => k_is); (case k6 => k_is); (case k7 => k_is); (case k8 => assumption); (case k9 => first | rfl | assumption); k_whole)))
local macro_rules | `(tactic| walk_at "CompEnd") => `(tactic| (k_dflt (refine compEnd_hand (by assumption) (by assumption) (by assumption) (by assumption) True.intro ?_)))
local macro_rules | `(tactic| walk_at "eval ListComp") => `(tactic| (k_here; k_dflt (refine LCg.ListComp_U (F₀ := by k_asm) (by rfl) (by decide) (by rfl) (by decide) (by rfl) ?_); k_dflt lcg_toSrc))
local macro_rules | `(tactic| walk_at "CompSrc") => `(tactic| (k_here; k_dflt (refine LCg.CompSrc.range (by rfl) (by k_asm) (by k_asm) (by assumption) (by first | decide | rfl) (by first | rfl | decide) (by first | size_fits | exact Nat.le_of_ble_eq_true rfl) ?_); intro g'; lcg_lit))
section T_G5i
section
theorem tree_i (w : World) (dn : Nat) (IH : dn ≠ 0 → TOk w (dn - 1)) (bz fz : Led) (ha cells : Addr) (cv : List Value) (ty : Value) (i j k n deep : Int) (t1 t2 t3 t4 tk td : Tok) (c : Nat) (hz : ∀ p ∈ fz, p.1 ≠ ha) (C : Cells fz ha cells cv) (Bs : Base bz fz) (Ty : TypesO bz ty) (H : HOk cv.length i j k n) (hdp : deep = (dn : Int)) :
  Runs w (6 * dn + 10) ((ha, W.listOf #[.ref cells, .int i t1, .int j t2, .int k t3, .int n t4] c) :: fz) 412 [.ref ha, ty, .str (S "i") tk, .int deep td] (TPost bz fz ha cells cv n dn) := by
  have vi : Vin (S "i") := Or.inl rfl
  have Ty' := Ty
  have mk : LeafMark (deep ≠ 0) (n ≠ 0) := ⟨trivial⟩
  obtain ⟨x, dx, es, n1, tI, tB, tS, rfl, m1, m2, g1, g2, g3, v1, v2, v3, y1, y2⟩ := Ty
  have m1 := Bs.s _ m1
  have m2 := Bs.s _ m2
  unfold Runs
  w_top off
  k_fill
  intro p loose mean mg mb dp un gd cn cs a ccd cl outer A₀ base h₀ L m s Q E B F X N T hk hd hu hret
  refine wpAny_call ?_
  k_dflt (refine' code_defC ?k1 ?k2 ?k3 ?k4 ?k5 ?kA ?kF ?kK ?k6 ?k7 ?k8 ?k9 ?kB ?kD ?_ ?c2 ?c3 ?c4; (case kA => exact rfl); (case kF => exact rfl); (case kK => first | exact rfl | assumption); (case k1 => k_asm); (case k2 => k_asm); (case k3 => k_asm); (case k4 => k_asm); (case k5 => k_asm); (case k6 => k_is); (case k7 => k_is); (case k8 => ktr_room); (case k9 => first | exact BindsTo.of_eq rfl | exact binds_K (by k_in) rfl (by k_is) rfl rfl rfl); (case kB => exact rfl); (case kD => decide +kernel); (case c2 => exact rfl); (case c3 => exact rfl); (case c4 => exact rfl); k_whole; intro _ _ _ _ _ _ _ N' Y' B' _ _ _; k_cells Y'; (try simp only [List.cons_append, List.nil_append] at N'); (try dsimp only); (try k_lift B'); (try k_fold))
  repeat' (first | (k_unfold; (try dsimp only)) | (k_end; wrow_close) | ((with_reducible show wpAny _ _ (call (Value.ref _) _ _) _ _ _); first | (k_here; k_dflt (refine' Runs.useT (TOk.run ?P9 ?P8 ?hz ?C ?H ?S9 ?T9 ?hk9 ?D9) (F := by k_asm) (B := by k_asm) (X := by k_asm) (T := by k_asm) (hk := by first | exact rfl | assumption) (N := ?N) (hd := ?hd) (hu := ?hu) (ret := ?_); (case P9 => with_reducible assumption); (case P8 => exact dn_ne (by with_reducible assumption) (by with_reducible assumption)); (case N => first | k_asm | exact News.sw (by k_asm) | exact News.sw3 (by k_asm) | exact News.sw4 (by k_asm)); (case hz => k_all); (case C => exact Cells.mono (by assumption) (fun p hp => by k_mem)); (case T9 => assumption); (case S9 => exact Base.mono (by assumption) (fun p hp => by k_mem)); (case H => first | exact HOk.dec (by assumption) (by assumption) | assumption); (case hk9 => assumption); (case D9 => exact dn_d9 (by with_reducible assumption) (by with_reducible assumption)); (case hd => refine' room_d ?hdh9 ?hde9 ?hdx9; (case hdh9 => with_reducible assumption); (case hde9 => exact rfl); (case hdx9 => (first | exact room_k (by decide) | exact dn_room (by with_reducible assumption) (by with_reducible assumption)))); (case hu => refine' room_u _ ?huh9 ?hue9 ?hux9; (case huh9 => with_reducible assumption); (case hue9 => exact rfl); (case hux9 => (first | exact room_k (by decide) | exact dn_room (by with_reducible assumption) (by with_reducible assumption)))); intro _ _ _ _ _ _ _ _ _ _ _ _ _ _ _ _ _ _ _ _ _ _; (try dsimp only); k_sweep)) | (k_here; k_dflt (refine' Runs.useN (node4_ok _ _ _ _ _ _ _ [_, _] _ ?ml ?vt) (F := by k_asm) (B := by k_asm) (X := by k_asm) (T := by k_asm) (hk := by first | exact rfl | assumption) (N := ?N) (hd := ?hd) (hu := ?hu) (ret := ?_); (case N => k_asm); (case ml => k_mem); (case vt => assumption); (case hd => refine' room_d ?hdh9 ?hde9 ?hdx9; (case hdh9 => with_reducible assumption); (case hde9 => exact rfl); (case hdx9 => (first | exact room_k (by decide) | exact dn_room (by with_reducible assumption) (by with_reducible assumption)))); (case hu => refine' room_u 3 ?huh9 ?hue9 ?hux9; (case huh9 => with_reducible assumption); (case hue9 => exact rfl); (case hux9 => (first | exact room_k (by decide) | exact dn_room (by with_reducible assumption) (by with_reducible assumption)))); intro _ _ _ _ _ _ _ _ _; (try dsimp only); k_sweep)) | (k_here; k_dflt (refine' Runs.useN (node4_ok _ _ _ _ _ _ _ [_] _ ?ml ?vt) (F := by k_asm) (B := by k_asm) (X := by k_asm) (T := by k_asm) (hk := by first | exact rfl | assumption) (N := ?N) (hd := ?hd) (hu := ?hu) (ret := ?_); (case N => k_asm); (case ml => k_mem); (case vt => assumption); (case hd => refine' room_d ?hdh9 ?hde9 ?hdx9; (case hdh9 => with_reducible assumption); (case hde9 => exact rfl); (case hdx9 => (first | exact room_k (by decide) | exact dn_room (by with_reducible assumption) (by with_reducible assumption)))); (case hu => refine' room_u 3 ?huh9 ?hue9 ?hux9; (case huh9 => with_reducible assumption); (case hue9 => exact rfl); (case hux9 => (first | exact room_k (by decide) | exact dn_room (by with_reducible assumption) (by with_reducible assumption)))); intro _ _ _ _ _ _ _ _ _; (try dsimp only); k_sweep)) | (k_here; k_dflt (refine' Runs.useN (node5_ok _ _ _ _ _ _ _ _ [] _ ?ml ?vt ?vv) (F := by k_asm) (B := by k_asm) (X := by k_asm) (T := by k_asm) (hk := by first | exact rfl | assumption) (N := ?N) (hd := ?hd) (hu := ?hu) (ret := ?_); (case N => k_asm); (case ml => k_mem); (case vt => assumption); (case vv => first | rfl | assumption); (case hd => refine' room_d ?hdh9 ?hde9 ?hdx9; (case hdh9 => with_reducible assumption); (case hde9 => exact rfl); (case hdx9 => (first | exact room_k (by decide) | exact dn_room (by with_reducible assumption) (by with_reducible assumption)))); (case hu => refine' room_u 3 ?huh9 ?hue9 ?hux9; (case huh9 => with_reducible assumption); (case hue9 => exact rfl); (case hux9 => (first | exact room_k (by decide) | exact dn_room (by with_reducible assumption) (by with_reducible assumption)))); intro _ _ _ _ _ _ _ _ _; (try dsimp only); k_sweep)) | (k_here; k_dflt (refine' Runs.usePk (pick_h _ ?hz ?C ?H ?l0 ?l1) (F := by k_asm) (B := by k_asm) (X := by k_asm) (T := by k_asm) (hk := by first | exact rfl | assumption) (N := ?N) (hd := ?hd) (hu := ?hu) (ret := ?_); (case N => first | k_asm | exact News.sw (by k_asm) | exact News.sw3 (by k_asm) | exact News.sw4 (by k_asm)); (case hz => k_all); (case C => exact Cells.mono (by assumption) (fun p hp => by k_mem)); (case H => first | assumption | exact HOk.dec (by assumption) (by assumption)); (case l0 => decide); (case l1 => decide); (case hd => refine' room_d ?hdh9 ?hde9 ?hdx9; (case hdh9 => with_reducible assumption); (case hde9 => exact rfl); (case hdx9 => (first | exact room_k (by decide) | exact dn_room (by with_reducible assumption) (by with_reducible assumption)))); (case hu => refine' room_u 1 ?huh9 ?hue9 ?hux9; (case huh9 => with_reducible assumption); (case hue9 => exact rfl); (case hux9 => (first | exact room_k (by decide) | exact dn_room (by with_reducible assumption) (by with_reducible assumption)))); intro _ _ _ _ _ _ _ _ _ _ _ _ _ _ _ _ _; (try dsimp only); k_sweep)) | (k_here; k_dflt (refine' Runs.useV (var_ok _ _ _ _ _ _ _ ?T9 ?hk9 ?i0 ?i1) (F := by k_asm) (B := by k_asm) (X := by k_asm) (T := by k_asm) (hk := by first | exact rfl | assumption) (N := ?N) (hd := ?hd) (hu := ?hu) (ret := ?_); (case N => k_asm); (case T9 => exact TypesO.mono (TypesO.mono (by assumption) (Base.s (by assumption))) (fun p hp => by k_mem)); (case hk9 => assumption); (case i0 => assumption); (case i1 => assumption); (case hd => refine' room_d ?hdh9 ?hde9 ?hdx9; (case hdh9 => with_reducible assumption); (case hde9 => exact rfl); (case hdx9 => (first | exact room_k (by decide) | exact dn_room (by with_reducible assumption) (by with_reducible assumption)))); (case hu => refine' room_u 6 ?huh9 ?hue9 ?hux9; (case huh9 => with_reducible assumption); (case hue9 => exact rfl); (case hux9 => (first | exact room_k (by decide) | exact dn_room (by with_reducible assumption) (by with_reducible assumption)))); intro _ _ _ _ _ _ _ _ _ _ _ _; (try dsimp only); k_sweep))) | ((with_reducible show wpAny _ _ (subscriptTail _ _ _ _) _ _ _); first | (k_here; (with_reducible refine' row_pick ?N ?ma ?I ?a ?b ?z ?_); k_dflt (skip; (case N => k_asm); (case ma => k_mem); (case I => first | exact .cons (.cons (.cons .nil)) | exact .cons (.cons (.cons (.cons .nil))) | exact .cons (.cons (.cons (.cons (.cons .nil)))) | exact .cons (.cons (.cons (.cons (.cons (.cons .nil)))))); (case a => assumption); (case b => assumption); (case z => decide)); intro _ _ _)) | ((with_reducible show wpAny _ _ (getAttr (Value.ref _) _ _) _ _ _); first | (k_here; k_dflt (refine' get_own ?k1 ?k2 ?k3 ?k4 ?k5 ?k6 ?k7 ?k8 ?k9 ?_; (case k1 => k_asm); (case k2 => k_asm); (case k3 => k_inst); (case k4 => k_is); (case k5 => k_is); (case k6 => k_is); (case k7 => k_is); (case k8 => assumption); (case k9 => first | rfl | assumption); k_whole))) | ((with_reducible show wpAny _ _ (isTrue (Expr.BoolOp BoolOp.Or _ _) _ _) _ _ _); first | (k_here; (with_reducible show wpAny _ _ (isTrue (Expr.BoolOp BoolOp.Or _ _) _ _) _ _ _); k_dflt (refine' or_cut ?mk ?h ?k1 ?k2; (case mk => assumption); (case h => ((with_reducible rename LeafMark _ _ => hmk); clear hmk; (repeat' (first | (k_unfold; (try dsimp only)) | (k_end; wrow_close) | ((with_reducible show wpAny _ _ (call (Value.ref _) _ _) _ _ _); first | (k_here; k_dflt (refine' Runs.useT (TOk.run ?P9 ?P8 ?hz ?C ?H ?S9 ?T9 ?hk9 ?D9) (F := by k_asm) (B := by k_asm) (X := by k_asm) (T := by k_asm) (hk := by first | exact rfl | assumption) (N := ?N) (hd := ?hd) (hu := ?hu) (ret := ?_); (case P9 => with_reducible assumption); (case P8 => exact dn_ne (by with_reducible assumption) (by with_reducible assumption)); (case N => first | k_asm | exact News.sw (by k_asm) | exact News.sw3 (by k_asm) | exact News.sw4 (by k_asm)); (case hz => k_all); (case C => exact Cells.mono (by assumption) (fun p hp => by k_mem)); (case T9 => assumption); (case S9 => exact Base.mono (by assumption) (fun p hp => by k_mem)); (case H => first | exact HOk.dec (by assumption) (by assumption) | assumption); (case hk9 => assumption); (case D9 => exact dn_d9 (by with_reducible assumption) (by with_reducible assumption)); (case hd => refine' room_d ?hdh9 ?hde9 ?hdx9; (case hdh9 => with_reducible assumption); (case hde9 => exact rfl); (case hdx9 => (first | exact room_k (by decide) | exact dn_room (by with_reducible assumption) (by with_reducible assumption)))); (case hu => refine' room_u _ ?huh9 ?hue9 ?hux9; (case huh9 => with_reducible assumption); (case hue9 => exact rfl); (case hux9 => (first | exact room_k (by decide) | exact dn_room (by with_reducible assumption) (by with_reducible assumption)))); intro _ _ _ _ _ _ _ _ _ _ _ _ _ _ _ _ _ _ _ _ _ _; (try dsimp only); k_sweep)) | (k_here; k_dflt (refine' Runs.useN (node4_ok _ _ _ _ _ _ _ [_, _] _ ?ml ?vt) (F := by k_asm) (B := by k_asm) (X := by k_asm) (T := by k_asm) (hk := by first | exact rfl | assumption) (N := ?N) (hd := ?hd) (hu := ?hu) (ret := ?_); (case N => k_asm); (case ml => k_mem); (case vt => assumption); (case hd => refine' room_d ?hdh9 ?hde9 ?hdx9; (case hdh9 => with_reducible assumption); (case hde9 => exact rfl); (case hdx9 => (first | exact room_k (by decide) | exact dn_room (by with_reducible assumption) (by with_reducible assumption)))); (case hu => refine' room_u 3 ?huh9 ?hue9 ?hux9; (case huh9 => with_reducible assumption); (case hue9 => exact rfl); (case hux9 => (first | exact room_k (by decide) | exact dn_room (by with_reducible assumption) (by with_reducible assumption)))); intro _ _ _ _ _ _ _ _ _; (try dsimp only); k_sweep)) | (k_here; k_dflt (refine' Runs.useN (node4_ok _ _ _ _ _ _ _ [_] _ ?ml ?vt) (F := by k_asm) (B := by k_asm) (X := by k_asm) (T := by k_asm) (hk := by first | exact rfl | assumption) (N := ?N) (hd := ?hd) (hu := ?hu) (ret := ?_); (case N => k_asm); (case ml => k_mem); (case vt => assumption); (case hd => refine' room_d ?hdh9 ?hde9 ?hdx9; (case hdh9 => with_reducible assumption); (case hde9 => exact rfl); (case hdx9 => (first | exact room_k (by decide) | exact dn_room (by with_reducible assumption) (by with_reducible assumption)))); (case hu => refine' room_u 3 ?huh9 ?hue9 ?hux9; (case huh9 => with_reducible assumption); (case hue9 => exact rfl); (case hux9 => (first | exact room_k (by decide) | exact dn_room (by with_reducible assumption) (by with_reducible assumption)))); intro _ _ _ _ _ _ _ _ _; (try dsimp only); k_sweep)) | (k_here; k_dflt (refine' Runs.useN (node5_ok _ _ _ _ _ _ _ _ [] _ ?ml ?vt ?vv) (F := by k_asm) (B := by k_asm) (X := by k_asm) (T := by k_asm) (hk := by first | exact rfl | assumption) (N := ?N) (hd := ?hd) (hu := ?hu) (ret := ?_); (case N => k_asm); (case ml => k_mem); (case vt => assumption); (case vv => first | rfl | assumption); (case hd => refine' room_d ?hdh9 ?hde9 ?hdx9; (case hdh9 => with_reducible assumption); (case hde9 => exact rfl); (case hdx9 => (first | exact room_k (by decide) | exact dn_room (by with_reducible assumption) (by with_reducible assumption)))); (case hu => refine' room_u 3 ?huh9 ?hue9 ?hux9; (case huh9 => with_reducible assumption); (case hue9 => exact rfl); (case hux9 => (first | exact room_k (by decide) | exact dn_room (by with_reducible assumption) (by with_reducible assumption)))); intro _ _ _ _ _ _ _ _ _; (try dsimp only); k_sweep)) | (k_here; k_dflt (refine' Runs.usePk (pick_h _ ?hz ?C ?H ?l0 ?l1) (F := by k_asm) (B := by k_asm) (X := by k_asm) (T := by k_asm) (hk := by first | exact rfl | assumption) (N := ?N) (hd := ?hd) (hu := ?hu) (ret := ?_); (case N => first | k_asm | exact News.sw (by k_asm) | exact News.sw3 (by k_asm) | exact News.sw4 (by k_asm)); (case hz => k_all); (case C => exact Cells.mono (by assumption) (fun p hp => by k_mem)); (case H => first | assumption | exact HOk.dec (by assumption) (by assumption)); (case l0 => decide); (case l1 => decide); (case hd => refine' room_d ?hdh9 ?hde9 ?hdx9; (case hdh9 => with_reducible assumption); (case hde9 => exact rfl); (case hdx9 => (first | exact room_k (by decide) | exact dn_room (by with_reducible assumption) (by with_reducible assumption)))); (case hu => refine' room_u 1 ?huh9 ?hue9 ?hux9; (case huh9 => with_reducible assumption); (case hue9 => exact rfl); (case hux9 => (first | exact room_k (by decide) | exact dn_room (by with_reducible assumption) (by with_reducible assumption)))); intro _ _ _ _ _ _ _ _ _ _ _ _ _ _ _ _ _; (try dsimp only); k_sweep)) | (k_here; k_dflt (refine' Runs.useV (var_ok _ _ _ _ _ _ _ ?T9 ?hk9 ?i0 ?i1) (F := by k_asm) (B := by k_asm) (X := by k_asm) (T := by k_asm) (hk := by first | exact rfl | assumption) (N := ?N) (hd := ?hd) (hu := ?hu) (ret := ?_); (case N => k_asm); (case T9 => exact TypesO.mono (TypesO.mono (by assumption) (Base.s (by assumption))) (fun p hp => by k_mem)); (case hk9 => assumption); (case i0 => assumption); (case i1 => assumption); (case hd => refine' room_d ?hdh9 ?hde9 ?hdx9; (case hdh9 => with_reducible assumption); (case hde9 => exact rfl); (case hdx9 => (first | exact room_k (by decide) | exact dn_room (by with_reducible assumption) (by with_reducible assumption)))); (case hu => refine' room_u 6 ?huh9 ?hue9 ?hux9; (case huh9 => with_reducible assumption); (case hue9 => exact rfl); (case hux9 => (first | exact room_k (by decide) | exact dn_room (by with_reducible assumption) (by with_reducible assumption)))); intro _ _ _ _ _ _ _ _ _ _ _ _; (try dsimp only); k_sweep))) | ((with_reducible show wpAny _ _ (subscriptTail _ _ _ _) _ _ _); first | (k_here; (with_reducible refine' row_pick ?N ?ma ?I ?a ?b ?z ?_); k_dflt (skip; (case N => k_asm); (case ma => k_mem); (case I => first | exact .cons (.cons (.cons .nil)) | exact .cons (.cons (.cons (.cons .nil))) | exact .cons (.cons (.cons (.cons (.cons .nil)))) | exact .cons (.cons (.cons (.cons (.cons (.cons .nil)))))); (case a => assumption); (case b => assumption); (case z => decide)); intro _ _ _)) | ((with_reducible show wpAny _ _ (getAttr (Value.ref _) _ _) _ _ _); first | (k_here; k_dflt (refine' get_own ?k1 ?k2 ?k3 ?k4 ?k5 ?k6 ?k7 ?k8 ?k9 ?_; (case k1 => k_asm); (case k2 => k_asm); (case k3 => k_inst); (case k4 => k_is); (case k5 => k_is); (case k6 => k_is); (case k7 => k_is); (case k8 => assumption); (case k9 => first | rfl | assumption); k_whole))) | walk1 | (dsimp only; walk1) | (leave1; walk_say "STEP leave1"; try dsimp only) | fail "no step")); all_goals (first | (with_reducible assumption) | exact absurd (by with_reducible assumption : true = false) Bool.noConfusion))); (case' k1 => (intro tk'; (try dsimp only))); (case' k2 => (intro _ _ _; (try dsimp only)))))) | walk1 | (dsimp only; walk1) | (leave1; walk_say "STEP leave1"; try dsimp only) | fail "no step")
  · rename_i T9 H9 Y9 Z9 D9 G9 v9 lk h'' l1 r8 h8 t8 F8 tl8 Y8 O8 v8 N8 kF kN Tc kX
    exact end_node (P := fun r _ h' tk' => Q r { s with heap := h', toks := tk' }) (kids := [_]) hret kF _ kN s_un H9 Y8 (Nat.ne_of_lt l1.1) (fun p hp => Nat.ne_of_lt (ktn_ltOf l1.2 p (List.mem_append_right _ (s3 p hp)))) (Fre.sub Y9 s3) Z9 O8 (fun L sub O => .neg O (.inl rfl) (D9.mono sub)) (tf_neg (dn_ne hdp (by with_reducible assumption)) G9) v8
  · rename_i Ta Ha Ya Za Da Ga va I' oI' C' oC' D1 m1' h1' tk1' E1 hC' off' ne' t9' hx' cE' r9 h9 t9 tl9 i9 j9 k9 n9' u91 u92 u93 u94 c9 T9 H9 Y9 Z9 D9 G9 v9 D' h'' tk'' o1 r8 h8 t8 F8 tl8 Y8 O8 v8 N8 kF kN Tc kX
    obtain ⟨o, ho, hb⟩ := bin_of (sub_all (by with_reducible assumption) (by decide +kernel))
    exact end_node (P := fun r _ h' tk' => Q r { s with heap := h', toks := tk' }) (kids := [_, _]) hret kF _ kN s_bin H9 Y8 o1.1 (fun p hp => off1_mem o1.2 p (List.mem_append_right _ (List.mem_append_right _ (s4 p hp)))) (fre_two (Fre.sub Ya s7) (Fre.sub Y9 (fun p hp => .tail _ (.tail _ (.tail _ (List.mem_append_right _ (s4 p hp))))))) (all_app Z9 Za) O8 (fun L sub O => .bin O ho (Da.mono (sub_a sub)) (D9.mono (sub_b sub))) (tf_bin (dn_ne hdp (by with_reducible assumption)) hb ho Ga G9) v8
  · rename_i lk h'' l1 h9 t9 i9 j9 k9 d9 u91 u92 u93 u94 u95 c9 H9 l9 m9 r8 h8 t8 F8 tl8 Y8 O8 v8 N8 kF kN Tc kX
    exact end_node (P := fun r _ h' tk' => Q r { s with heap := h', toks := tk' }) (kids := []) hret kF [] kN s_c H9 Y8 (Nat.ne_of_lt l1.1) (fun p hp => Nat.ne_of_lt (ktn_ltOf l1.2.2.2.2 p hp)) Fre.nil (fun _ h => nomatch h) O8 (fun L sub O => .ci O (y1.mono sub) l9 m9) (tf_leaf (int_word l9 m9).1 (int_word l9 m9).2) v8
  · rename_i tl9 x9 Y9 O9 c9 G9 v9 N9 kF kN Tc kX
    exact end_var (P := fun r _ h' tk' => Q r { s with heap := h', toks := tk' }) hret kF kN s3 (by assumption) Y9 O9 c9 G9 v9
  · rename_i tl9 x9 Y9 O9 c9 G9 v9 N9 kF kN Tc kX
    exact end_var (P := fun r _ h' tk' => Q r { s with heap := h', toks := tk' }) hret kF kN s3 (by assumption) Y9 O9 c9 G9 v9
end
end T_G5i
section T_G5b
local macro_rules | `(tactic| walk_at "no such key 0") => `(tactic| fail)
section
theorem tree_b (w : World) (dn : Nat) (IH : dn ≠ 0 → TOk w (dn - 1)) (bz fz : Led) (ha cells : Addr) (cv : List Value) (ty : Value) (i j k n deep : Int) (t1 t2 t3 t4 tk td : Tok) (c : Nat) (hz : ∀ p ∈ fz, p.1 ≠ ha) (C : Cells fz ha cells cv) (Bs : Base bz fz) (Ty : TypesO bz ty) (H : HOk cv.length i j k n) (hdp : deep = (dn : Int)) :
  Runs w (6 * dn + 10) ((ha, W.listOf #[.ref cells, .int i t1, .int j t2, .int k t3, .int n t4] c) :: fz) 412 [.ref ha, ty, .str (S "b") tk, .int deep td] (TPost bz fz ha cells cv n dn) := by
  have vi : Vin (S "i") := Or.inl rfl
  have vb : Vin (S "b") := Or.inr (Or.inl rfl)
  have vs : Vin (S "s") := Or.inr (Or.inr rfl)
  have Ty' := Ty
  have mk : LeafMark (deep ≠ 0) (n ≠ 0) := ⟨trivial⟩
  obtain ⟨x, dx, es, n1, tI, tB, tS, rfl, m1, m2, g1, g2, g3, v1, v2, v3, y1, y2⟩ := Ty
  have m1 := Bs.s _ m1
  have m2 := Bs.s _ m2
  unfold Runs
  w_top off
  k_fill
  intro p loose mean mg mb dp un gd cn cs a ccd cl outer A₀ base h₀ L m s Q E B F X N T hk hd hu hret
  refine wpAny_call ?_
  k_dflt (refine' code_defC ?k1 ?k2 ?k3 ?k4 ?k5 ?kA ?kF ?kK ?k6 ?k7 ?k8 ?k9 ?kB ?kD ?_ ?c2 ?c3 ?c4; (case kA => exact rfl); (case kF => exact rfl); (case kK => first | exact rfl | assumption); (case k1 => k_asm); (case k2 => k_asm); (case k3 => k_asm); (case k4 => k_asm); (case k5 => k_asm); (case k6 => k_is); (case k7 => k_is); (case k8 => ktr_room); (case k9 => first | exact BindsTo.of_eq rfl | exact binds_K (by k_in) rfl (by k_is) rfl rfl rfl); (case kB => exact rfl); (case kD => decide +kernel); (case c2 => exact rfl); (case c3 => exact rfl); (case c4 => exact rfl); k_whole; intro _ _ _ _ _ _ _ N' Y' B' _ _ _; k_cells Y'; (try simp only [List.cons_append, List.nil_append] at N'); (try dsimp only); (try k_lift B'); (try k_fold))
  repeat' (first | (k_unfold; (try dsimp only)) | (k_end; wrow_close) | ((with_reducible show wpAny _ _ (call (Value.ref _) _ _) _ _ _); first | (k_here; k_dflt (refine' Runs.useT (TOk.run ?P9 ?P8 ?hz ?C ?H ?S9 ?T9 ?hk9 ?D9) (F := by k_asm) (B := by k_asm) (X := by k_asm) (T := by k_asm) (hk := by first | exact rfl | assumption) (N := ?N) (hd := ?hd) (hu := ?hu) (ret := ?_); (case P9 => with_reducible assumption); (case P8 => exact dn_ne (by with_reducible assumption) (by with_reducible assumption)); (case N => first | k_asm | exact News.sw (by k_asm) | exact News.sw3 (by k_asm) | exact News.sw4 (by k_asm)); (case hz => k_all); (case C => exact Cells.mono (by assumption) (fun p hp => by k_mem)); (case T9 => assumption); (case S9 => exact Base.mono (by assumption) (fun p hp => by k_mem)); (case H => first | exact HOk.dec (by assumption) (by assumption) | assumption); (case hk9 => assumption); (case D9 => exact dn_d9 (by with_reducible assumption) (by with_reducible assumption)); (case hd => refine' room_d ?hdh9 ?hde9 ?hdx9; (case hdh9 => with_reducible assumption); (case hde9 => exact rfl); (case hdx9 => (first | exact room_k (by decide) | exact dn_room (by with_reducible assumption) (by with_reducible assumption)))); (case hu => refine' room_u _ ?huh9 ?hue9 ?hux9; (case huh9 => with_reducible assumption); (case hue9 => exact rfl); (case hux9 => (first | exact room_k (by decide) | exact dn_room (by with_reducible assumption) (by with_reducible assumption)))); intro _ _ _ _ _ _ _ _ _ _ _ _ _ _ _ _ _ _ _ _ _ _; (try dsimp only); k_sweep)) | (k_here; k_dflt (refine' Runs.useN (node4_ok _ _ _ _ _ _ _ [_, _] _ ?ml ?vt) (F := by k_asm) (B := by k_asm) (X := by k_asm) (T := by k_asm) (hk := by first | exact rfl | assumption) (N := ?N) (hd := ?hd) (hu := ?hu) (ret := ?_); (case N => k_asm); (case ml => k_mem); (case vt => assumption); (case hd => refine' room_d ?hdh9 ?hde9 ?hdx9; (case hdh9 => with_reducible assumption); (case hde9 => exact rfl); (case hdx9 => (first | exact room_k (by decide) | exact dn_room (by with_reducible assumption) (by with_reducible assumption)))); (case hu => refine' room_u 3 ?huh9 ?hue9 ?hux9; (case huh9 => with_reducible assumption); (case hue9 => exact rfl); (case hux9 => (first | exact room_k (by decide) | exact dn_room (by with_reducible assumption) (by with_reducible assumption)))); intro _ _ _ _ _ _ _ _ _; (try dsimp only); k_sweep)) | (k_here; k_dflt (refine' Runs.useN (node4_ok _ _ _ _ _ _ _ [_] _ ?ml ?vt) (F := by k_asm) (B := by k_asm) (X := by k_asm) (T := by k_asm) (hk := by first | exact rfl | assumption) (N := ?N) (hd := ?hd) (hu := ?hu) (ret := ?_); (case N => k_asm); (case ml => k_mem); (case vt => assumption); (case hd => refine' room_d ?hdh9 ?hde9 ?hdx9; (case hdh9 => with_reducible assumption); (case hde9 => exact rfl); (case hdx9 => (first | exact room_k (by decide) | exact dn_room (by with_reducible assumption) (by with_reducible assumption)))); (case hu => refine' room_u 3 ?huh9 ?hue9 ?hux9; (case huh9 => with_reducible assumption); (case hue9 => exact rfl); (case hux9 => (first | exact room_k (by decide) | exact dn_room (by with_reducible assumption) (by with_reducible assumption)))); intro _ _ _ _ _ _ _ _ _; (try dsimp only); k_sweep)) | (k_here; k_dflt (refine' Runs.useN (node5_ok _ _ _ _ _ _ _ _ [] _ ?ml ?vt ?vv) (F := by k_asm) (B := by k_asm) (X := by k_asm) (T := by k_asm) (hk := by first | exact rfl | assumption) (N := ?N) (hd := ?hd) (hu := ?hu) (ret := ?_); (case N => k_asm); (case ml => k_mem); (case vt => assumption); (case vv => first | rfl | assumption); (case hd => refine' room_d ?hdh9 ?hde9 ?hdx9; (case hdh9 => with_reducible assumption); (case hde9 => exact rfl); (case hdx9 => (first | exact room_k (by decide) | exact dn_room (by with_reducible assumption) (by with_reducible assumption)))); (case hu => refine' room_u 3 ?huh9 ?hue9 ?hux9; (case huh9 => with_reducible assumption); (case hue9 => exact rfl); (case hux9 => (first | exact room_k (by decide) | exact dn_room (by with_reducible assumption) (by with_reducible assumption)))); intro _ _ _ _ _ _ _ _ _; (try dsimp only); k_sweep)) | (k_here; k_dflt (refine' Runs.usePk (pick_h _ ?hz ?C ?H ?l0 ?l1) (F := by k_asm) (B := by k_asm) (X := by k_asm) (T := by k_asm) (hk := by first | exact rfl | assumption) (N := ?N) (hd := ?hd) (hu := ?hu) (ret := ?_); (case N => first | k_asm | exact News.sw (by k_asm) | exact News.sw3 (by k_asm) | exact News.sw4 (by k_asm)); (case hz => k_all); (case C => exact Cells.mono (by assumption) (fun p hp => by k_mem)); (case H => first | assumption | exact HOk.dec (by assumption) (by assumption)); (case l0 => decide); (case l1 => decide); (case hd => refine' room_d ?hdh9 ?hde9 ?hdx9; (case hdh9 => with_reducible assumption); (case hde9 => exact rfl); (case hdx9 => (first | exact room_k (by decide) | exact dn_room (by with_reducible assumption) (by with_reducible assumption)))); (case hu => refine' room_u 1 ?huh9 ?hue9 ?hux9; (case huh9 => with_reducible assumption); (case hue9 => exact rfl); (case hux9 => (first | exact room_k (by decide) | exact dn_room (by with_reducible assumption) (by with_reducible assumption)))); intro _ _ _ _ _ _ _ _ _ _ _ _ _ _ _ _ _; (try dsimp only); k_sweep)) | (k_here; k_dflt (refine' Runs.useV (var_ok _ _ _ _ _ _ _ ?T9 ?hk9 ?i0 ?i1) (F := by k_asm) (B := by k_asm) (X := by k_asm) (T := by k_asm) (hk := by first | exact rfl | assumption) (N := ?N) (hd := ?hd) (hu := ?hu) (ret := ?_); (case N => k_asm); (case T9 => exact TypesO.mono (TypesO.mono (by assumption) (Base.s (by assumption))) (fun p hp => by k_mem)); (case hk9 => assumption); (case i0 => assumption); (case i1 => assumption); (case hd => refine' room_d ?hdh9 ?hde9 ?hdx9; (case hdh9 => with_reducible assumption); (case hde9 => exact rfl); (case hdx9 => (first | exact room_k (by decide) | exact dn_room (by with_reducible assumption) (by with_reducible assumption)))); (case hu => refine' room_u 6 ?huh9 ?hue9 ?hux9; (case huh9 => with_reducible assumption); (case hue9 => exact rfl); (case hux9 => (first | exact room_k (by decide) | exact dn_room (by with_reducible assumption) (by with_reducible assumption)))); intro _ _ _ _ _ _ _ _ _ _ _ _; (try dsimp only); k_sweep))) | ((with_reducible show wpAny _ _ (subscriptTail _ _ _ _) _ _ _); first | (k_here; (with_reducible refine' row_pick ?N ?ma ?I ?a ?b ?z ?_); k_dflt (skip; (case N => k_asm); (case ma => k_mem); (case I => first | exact .cons (.cons (.cons .nil)) | exact .cons (.cons (.cons (.cons .nil))) | exact .cons (.cons (.cons (.cons (.cons .nil)))) | exact .cons (.cons (.cons (.cons (.cons (.cons .nil)))))); (case a => assumption); (case b => assumption); (case z => decide)); intro _ _ _)) | ((with_reducible show wpAny _ _ (getAttr (Value.ref _) _ _) _ _ _); first | (k_here; k_dflt (refine' get_own ?k1 ?k2 ?k3 ?k4 ?k5 ?k6 ?k7 ?k8 ?k9 ?_; (case k1 => k_asm); (case k2 => k_asm); (case k3 => k_inst); (case k4 => k_is); (case k5 => k_is); (case k6 => k_is); (case k7 => k_is); (case k8 => assumption); (case k9 => first | rfl | assumption); k_whole))) | ((with_reducible show wpAny _ _ (isTrue (Expr.BoolOp BoolOp.Or _ _) _ _) _ _ _); first | (k_here; (with_reducible show wpAny _ _ (isTrue (Expr.BoolOp BoolOp.Or _ _) _ _) _ _ _); k_dflt (refine' or_cut ?mk ?h ?k1 ?k2; (case mk => assumption); (case h => ((with_reducible rename LeafMark _ _ => hmk); clear hmk; (repeat' (first | (k_unfold; (try dsimp only)) | (k_end; wrow_close) | ((with_reducible show wpAny _ _ (call (Value.ref _) _ _) _ _ _); first | (k_here; k_dflt (refine' Runs.useT (TOk.run ?P9 ?P8 ?hz ?C ?H ?S9 ?T9 ?hk9 ?D9) (F := by k_asm) (B := by k_asm) (X := by k_asm) (T := by k_asm) (hk := by first | exact rfl | assumption) (N := ?N) (hd := ?hd) (hu := ?hu) (ret := ?_); (case P9 => with_reducible assumption); (case P8 => exact dn_ne (by with_reducible assumption) (by with_reducible assumption)); (case N => first | k_asm | exact News.sw (by k_asm) | exact News.sw3 (by k_asm) | exact News.sw4 (by k_asm)); (case hz => k_all); (case C => exact Cells.mono (by assumption) (fun p hp => by k_mem)); (case T9 => assumption); (case S9 => exact Base.mono (by assumption) (fun p hp => by k_mem)); (case H => first | exact HOk.dec (by assumption) (by assumption) | assumption); (case hk9 => assumption); (case D9 => exact dn_d9 (by with_reducible assumption) (by with_reducible assumption)); (case hd => refine' room_d ?hdh9 ?hde9 ?hdx9; (case hdh9 => with_reducible assumption); (case hde9 => exact rfl); (case hdx9 => (first | exact room_k (by decide) | exact dn_room (by with_reducible assumption) (by with_reducible assumption)))); (case hu => refine' room_u _ ?huh9 ?hue9 ?hux9; (case huh9 => with_reducible assumption); (case hue9 => exact rfl); (case hux9 => (first | exact room_k (by decide) | exact dn_room (by with_reducible assumption) (by with_reducible assumption)))); intro _ _ _ _ _ _ _ _ _ _ _ _ _ _ _ _ _ _ _ _ _ _; (try dsimp only); k_sweep)) | (k_here; k_dflt (refine' Runs.useN (node4_ok _ _ _ _ _ _ _ [_, _] _ ?ml ?vt) (F := by k_asm) (B := by k_asm) (X := by k_asm) (T := by k_asm) (hk := by first | exact rfl | assumption) (N := ?N) (hd := ?hd) (hu := ?hu) (ret := ?_); (case N => k_asm); (case ml => k_mem); (case vt => assumption); (case hd => refine' room_d ?hdh9 ?hde9 ?hdx9; (case hdh9 => with_reducible assumption); (case hde9 => exact rfl); (case hdx9 => (first | exact room_k (by decide) | exact dn_room (by with_reducible assumption) (by with_reducible assumption)))); (case hu => refine' room_u 3 ?huh9 ?hue9 ?hux9; (case huh9 => with_reducible assumption); (case hue9 => exact rfl); (case hux9 => (first | exact room_k (by decide) | exact dn_room (by with_reducible assumption) (by with_reducible assumption)))); intro _ _ _ _ _ _ _ _ _; (try dsimp only); k_sweep)) | (k_here; k_dflt (refine' Runs.useN (node4_ok _ _ _ _ _ _ _ [_] _ ?ml ?vt) (F := by k_asm) (B := by k_asm) (X := by k_asm) (T := by k_asm) (hk := by first | exact rfl | assumption) (N := ?N) (hd := ?hd) (hu := ?hu) (ret := ?_); (case N => k_asm); (case ml => k_mem); (case vt => assumption); (case hd => refine' room_d ?hdh9 ?hde9 ?hdx9; (case hdh9 => with_reducible assumption); (case hde9 => exact rfl); (case hdx9 => (first | exact room_k (by decide) | exact dn_room (by with_reducible assumption) (by with_reducible assumption)))); (case hu => refine' room_u 3 ?huh9 ?hue9 ?hux9; (case huh9 => with_reducible assumption); (case hue9 => exact rfl); (case hux9 => (first | exact room_k (by decide) | exact dn_room (by with_reducible assumption) (by with_reducible assumption)))); intro _ _ _ _ _ _ _ _ _; (try dsimp only); k_sweep)) | (k_here; k_dflt (refine' Runs.useN (node5_ok _ _ _ _ _ _ _ _ [] _ ?ml ?vt ?vv) (F := by k_asm) (B := by k_asm) (X := by k_asm) (T := by k_asm) (hk := by first | exact rfl | assumption) (N := ?N) (hd := ?hd) (hu := ?hu) (ret := ?_); (case N => k_asm); (case ml => k_mem); (case vt => assumption); (case vv => first | rfl | assumption); (case hd => refine' room_d ?hdh9 ?hde9 ?hdx9; (case hdh9 => with_reducible assumption); (case hde9 => exact rfl); (case hdx9 => (first | exact room_k (by decide) | exact dn_room (by with_reducible assumption) (by with_reducible assumption)))); (case hu => refine' room_u 3 ?huh9 ?hue9 ?hux9; (case huh9 => with_reducible assumption); (case hue9 => exact rfl); (case hux9 => (first | exact room_k (by decide) | exact dn_room (by with_reducible assumption) (by with_reducible assumption)))); intro _ _ _ _ _ _ _ _ _; (try dsimp only); k_sweep)) | (k_here; k_dflt (refine' Runs.usePk (pick_h _ ?hz ?C ?H ?l0 ?l1) (F := by k_asm) (B := by k_asm) (X := by k_asm) (T := by k_asm) (hk := by first | exact rfl | assumption) (N := ?N) (hd := ?hd) (hu := ?hu) (ret := ?_); (case N => first | k_asm | exact News.sw (by k_asm) | exact News.sw3 (by k_asm) | exact News.sw4 (by k_asm)); (case hz => k_all); (case C => exact Cells.mono (by assumption) (fun p hp => by k_mem)); (case H => first | assumption | exact HOk.dec (by assumption) (by assumption)); (case l0 => decide); (case l1 => decide); (case hd => refine' room_d ?hdh9 ?hde9 ?hdx9; (case hdh9 => with_reducible assumption); (case hde9 => exact rfl); (case hdx9 => (first | exact room_k (by decide) | exact dn_room (by with_reducible assumption) (by with_reducible assumption)))); (case hu => refine' room_u 1 ?huh9 ?hue9 ?hux9; (case huh9 => with_reducible assumption); (case hue9 => exact rfl); (case hux9 => (first | exact room_k (by decide) | exact dn_room (by with_reducible assumption) (by with_reducible assumption)))); intro _ _ _ _ _ _ _ _ _ _ _ _ _ _ _ _ _; (try dsimp only); k_sweep)) | (k_here; k_dflt (refine' Runs.useV (var_ok _ _ _ _ _ _ _ ?T9 ?hk9 ?i0 ?i1) (F := by k_asm) (B := by k_asm) (X := by k_asm) (T := by k_asm) (hk := by first | exact rfl | assumption) (N := ?N) (hd := ?hd) (hu := ?hu) (ret := ?_); (case N => k_asm); (case T9 => exact TypesO.mono (TypesO.mono (by assumption) (Base.s (by assumption))) (fun p hp => by k_mem)); (case hk9 => assumption); (case i0 => assumption); (case i1 => assumption); (case hd => refine' room_d ?hdh9 ?hde9 ?hdx9; (case hdh9 => with_reducible assumption); (case hde9 => exact rfl); (case hdx9 => (first | exact room_k (by decide) | exact dn_room (by with_reducible assumption) (by with_reducible assumption)))); (case hu => refine' room_u 6 ?huh9 ?hue9 ?hux9; (case huh9 => with_reducible assumption); (case hue9 => exact rfl); (case hux9 => (first | exact room_k (by decide) | exact dn_room (by with_reducible assumption) (by with_reducible assumption)))); intro _ _ _ _ _ _ _ _ _ _ _ _; (try dsimp only); k_sweep))) | ((with_reducible show wpAny _ _ (subscriptTail _ _ _ _) _ _ _); first | (k_here; (with_reducible refine' row_pick ?N ?ma ?I ?a ?b ?z ?_); k_dflt (skip; (case N => k_asm); (case ma => k_mem); (case I => first | exact .cons (.cons (.cons .nil)) | exact .cons (.cons (.cons (.cons .nil))) | exact .cons (.cons (.cons (.cons (.cons .nil)))) | exact .cons (.cons (.cons (.cons (.cons (.cons .nil)))))); (case a => assumption); (case b => assumption); (case z => decide)); intro _ _ _)) | ((with_reducible show wpAny _ _ (getAttr (Value.ref _) _ _) _ _ _); first | (k_here; k_dflt (refine' get_own ?k1 ?k2 ?k3 ?k4 ?k5 ?k6 ?k7 ?k8 ?k9 ?_; (case k1 => k_asm); (case k2 => k_asm); (case k3 => k_inst); (case k4 => k_is); (case k5 => k_is); (case k6 => k_is); (case k7 => k_is); (case k8 => assumption); (case k9 => first | rfl | assumption); k_whole))) | walk1 | (dsimp only; walk1) | (leave1; walk_say "STEP leave1"; try dsimp only) | fail "no step")); all_goals (first | (with_reducible assumption) | exact absurd (by with_reducible assumption : true = false) Bool.noConfusion))); (case' k1 => (intro tk'; (try dsimp only))); (case' k2 => (intro _ _ _; (try dsimp only)))))) | walk1 | (dsimp only; walk1) | (leave1; walk_say "STEP leave1"; try dsimp only) | fail "no step")
  · rename_i T9 H9 Y9 Z9 D9 G9 v9 lk h'' l1 r8 h8 t8 F8 tl8 Y8 O8 v8 N8 kF kN Tc kX
    exact end_node (P := fun r _ h' tk' => Q r { s with heap := h', toks := tk' }) (kids := [_]) hret kF _ kN s_un H9 Y8 (Nat.ne_of_lt l1.1) (fun p hp => Nat.ne_of_lt (ktn_ltOf l1.2 p (List.mem_append_right _ (s3 p hp)))) (Fre.sub Y9 s3) Z9 O8 (fun L sub O => .nt O (D9.mono sub)) (tf_nt (dn_ne hdp (by with_reducible assumption)) G9) v8
  · rename_i Ta Ha Ya Za Da Ga va I' oI' C' oC' D1 m1' h1' tk1' E1 hC' off' ne' t9' hx' cE' r9 h9 t9 tl9 i9 j9 k9 n9' u91 u92 u93 u94 c9 T9 H9 Y9 Z9 D9 G9 v9 D' h'' tk'' o1 r8 h8 t8 F8 tl8 Y8 O8 v8 N8 kF kN Tc kX
    obtain ⟨o, ho, hb⟩ := bin_of (sub_all (by with_reducible assumption) (by decide +kernel))
    exact end_node (P := fun r _ h' tk' => Q r { s with heap := h', toks := tk' }) (kids := [_, _]) hret kF _ kN s_bin H9 Y8 o1.1 (fun p hp => off1_mem o1.2 p (List.mem_append_right _ (List.mem_append_right _ (s4 p hp)))) (fre_two (Fre.sub Ya s7) (Fre.sub Y9 (fun p hp => .tail _ (.tail _ (.tail _ (List.mem_append_right _ (s4 p hp))))))) (all_app Z9 Za) O8 (fun L sub O => .bin O ho (Da.mono (sub_a sub)) (D9.mono (sub_b sub))) (tf_bin (dn_ne hdp (by with_reducible assumption)) hb ho Ga G9) v8
  · rename_i Ta Ha Ya Za Da Ga va r9 h9 t9 tl9 i9 j9 k9 n9' u91 u92 u93 u94 c9 T9 H9 Y9 Z9 D9 G9 v9 lk h'' l1 r8 h8 t8 F8 tl8 Y8 O8 v8 N8 kF kN Tc kX
    obtain ⟨o, ho, hb⟩ := bin_of (x := S "IN") (by decide +kernel)
    exact end_node (P := fun r _ h' tk' => Q r { s with heap := h', toks := tk' }) (kids := [_, _]) hret kF _ kN s_bin0 H9 Y8 (Nat.ne_of_lt l1.1) (fun p hp => Nat.ne_of_lt (ktn_ltOf l1.2 p (List.mem_append_right _ (List.mem_append_right _ (s3 p hp))))) (fre_two (Fre.sub Ya s3) (Fre.sub Y9 (fun p hp => List.mem_append_right _ (s3 p hp)))) (all_app Z9 Za) O8 (fun L sub O => .bin O ho (Da.mono (sub_a sub)) (D9.mono (sub_b sub))) (tf_bin (dn_ne hdp (by with_reducible assumption)) hb ho Ga G9) v8
  · rename_i Ta Ha Ya Za Da Ga va I' oI' C' oC' D1 m1' h1' tk1' E1 hC' off' ne' t9' hx' cE' r9 h9 t9 tl9 i9 j9 k9 n9' u91 u92 u93 u94 c9 T9 H9 Y9 Z9 D9 G9 v9 D' h'' tk'' o1 r8 h8 t8 F8 tl8 Y8 O8 v8 N8 kF kN Tc kX
    obtain ⟨o, ho, hb⟩ := bin_of (sub_all (by with_reducible assumption) (by decide +kernel))
    exact end_node (P := fun r _ h' tk' => Q r { s with heap := h', toks := tk' }) (kids := [_, _]) hret kF _ kN s_bin H9 Y8 o1.1 (fun p hp => off1_mem o1.2 p (List.mem_append_right _ (List.mem_append_right _ (s4 p hp)))) (fre_two (Fre.sub Ya s7) (Fre.sub Y9 (fun p hp => .tail _ (.tail _ (.tail _ (List.mem_append_right _ (s4 p hp))))))) (all_app Z9 Za) O8 (fun L sub O => .bin O ho (Da.mono (sub_a sub)) (D9.mono (sub_b sub))) (tf_bin (dn_ne hdp (by with_reducible assumption)) hb ho Ga G9) v8
  · rename_i Ta Ha Ya Za Da Ga va I' oI' C' oC' D1 m1' h1' tk1' E1 hC' off' ne' t9' hx' cE' r9 h9 t9 tl9 i9 j9 k9 n9' u91 u92 u93 u94 c9 T9 H9 Y9 Z9 D9 G9 v9 D' h'' tk'' o1 r8 h8 t8 F8 tl8 Y8 O8 v8 N8 kF kN Tc kX
    obtain ⟨o, ho, hb⟩ := bin_of (sub_all (by with_reducible assumption) (by decide +kernel))
    exact end_node (P := fun r _ h' tk' => Q r { s with heap := h', toks := tk' }) (kids := [_, _]) hret kF _ kN s_bin H9 Y8 o1.1 (fun p hp => off1_mem o1.2 p (List.mem_append_right _ (List.mem_append_right _ (s4 p hp)))) (fre_two (Fre.sub Ya s7) (Fre.sub Y9 (fun p hp => .tail _ (.tail _ (.tail _ (List.mem_append_right _ (s4 p hp))))))) (all_app Z9 Za) O8 (fun L sub O => .bin O ho (Da.mono (sub_a sub)) (D9.mono (sub_b sub))) (tf_bin (dn_ne hdp (by with_reducible assumption)) hb ho Ga G9) v8
  · rename_i lk h'' l1 h9 t9 i9 j9 k9 d9 u91 u92 u93 u94 u95 c9 H9 l9 m9 r8 h8 t8 F8 tl8 Y8 O8 v8 N8 kF kN Tc kX
    exact end_node (P := fun r _ h' tk' => Q r { s with heap := h', toks := tk' }) (kids := []) hret kF [] kN s_c H9 Y8 (Nat.ne_of_lt l1.1) (fun p hp => Nat.ne_of_lt (ktn_ltOf l1.2.2.2.2 p hp)) Fre.nil (fun _ h => nomatch h) O8 (fun L sub O => .cb O (y2.mono sub) l9 m9) (tf_leaf bool_word.1 bool_word.2) v8
  · rename_i tl9 x9 Y9 O9 c9 G9 v9 N9 kF kN Tc kX
    exact end_var (P := fun r _ h' tk' => Q r { s with heap := h', toks := tk' }) hret kF kN s3 (by assumption) Y9 O9 c9 G9 v9
  · rename_i lk h'' l1 h9 t9 i9 j9 k9 d9 u91 u92 u93 u94 u95 c9 H9 l9 m9 r8 h8 t8 F8 tl8 Y8 O8 v8 N8 kF kN Tc kX
    exact end_node (P := fun r _ h' tk' => Q r { s with heap := h', toks := tk' }) (kids := []) hret kF [] kN s_c H9 Y8 (Nat.ne_of_lt l1.1) (fun p hp => Nat.ne_of_lt (ktn_ltOf l1.2.2.2.2 p hp)) Fre.nil (fun _ h => nomatch h) O8 (fun L sub O => .cb O (y2.mono sub) l9 m9) (tf_leaf bool_word.1 bool_word.2) v8
  · rename_i tl9 x9 Y9 O9 c9 G9 v9 N9 kF kN Tc kX
    exact end_var (P := fun r _ h' tk' => Q r { s with heap := h', toks := tk' }) hret kF kN s3 (by assumption) Y9 O9 c9 G9 v9
end
end T_G5b
theorem ne_o2 {x I C D : Addr} {P Q : Prop} (h : P ∧ (x ≠ I ∧ x ≠ C ∧ x ≠ D) ∧ Q) : I ≠ x ∧ C ≠ x ∧ D ≠ x := ⟨h.2.1.1.symm, h.2.1.2.1.symm, h.2.1.2.2.symm⟩
theorem ne_l4 {x y : Addr} {P R S Q : Prop} (h : P ∧ R ∧ S ∧ y < x ∧ Q) : x ≠ y := Nat.ne_of_gt h.2.2.2.1
theorem len2 {i : Nat} {d : Int} (h : i < d.toNat) (m : d < 3) : i ≤ 2 := by omega
theorem len3 {d : Int} (m : d < 3) : d.toNat ≤ 2 := by omega
theorem sm3 {d : Int} (h : d < 3) : d < 2 ^ 62 := by omega
theorem ops2 {a b : Nat} {n0 n1 n2 : Int} (h1 : (a : Int) + n1 ≤ n0) (h2 : (b : Int) + n2 ≤ n1) : ((a + b : Nat) : Int) + n2 ≤ n0 := by omega
section T_G5s
section
local macro_rules | `(tactic| walk_at "CompEnd") => `(tactic| (k_dflt (refine compEnd_hand (by assumption) (by assumption) (off3_sw (by assumption)) (by assumption) True.intro ?_)))
local macro_rules | `(tactic| walk_at "pyIter ref") => `(tactic| (k_here; refine Held.of ?_))
local macro_rules | `(tactic| walk_at "call type:range") => `(tactic| (k_here; ((with_reducible rename Fr _ _ _ _ => F'); (with_reducible rename News _ _ _ _ => N'); (with_unfolding_all refine range1_rows F' N' ?_); intro _ _ _ _ _ _ _ _ _)))
local macro_rules | `(tactic| walk_at "storeName") => `(tactic| (k_here; (with_reducible refine' store_two ?sta ?stb ?_ ?_); (case sta => with_reducible assumption); (case stb => with_reducible assumption)))
local macro_rules | `(tactic| k_upd) => `(tactic| (refine' upd_app ?a ?b; (case a => k_all); (case b => k_upd)))
local macro_rules | `(tactic| k_ne) => `(tactic| (refine' off1_ne ?h ?m; (case h => assumption); (case m => k_mem)))
local macro_rules | `(tactic| k_ne) => `(tactic| first | exact (ne_o2 (by assumption)).1 | exact (ne_o2 (by assumption)).2.1 | exact (ne_o2 (by assumption)).2.2 | exact Ne.symm (ne_l2 (by assumption)) | exact Ne.symm (ne_l3 (by assumption)) | exact Ne.symm (ne_l4 (by assumption)))
theorem tree_s (w : World) (dn : Nat) (IH : dn ≠ 0 → TOk w (dn - 1)) (bz fz : Led) (ha cells : Addr) (cv : List Value) (ty : Value) (i j k n deep : Int) (t1 t2 t3 t4 tk td : Tok) (c : Nat) (hz : ∀ p ∈ fz, p.1 ≠ ha) (C : Cells fz ha cells cv) (Bs : Base bz fz) (Ty : TypesO bz ty) (H : HOk cv.length i j k n) (hdp : deep = (dn : Int)) :
  Runs w (6 * dn + 10) ((ha, W.listOf #[.ref cells, .int i t1, .int j t2, .int k t3, .int n t4] c) :: fz) 412 [.ref ha, ty, .str (S "s") tk, .int deep td] (TPost bz fz ha cells cv n dn) := by
  have vi : Vin (S "i") := Or.inl rfl
  have vs : Vin (S "s") := Or.inr (Or.inr rfl)
  have Ty' := Ty
  have mk : LeafMark (deep ≠ 0) (n ≠ 0) := ⟨trivial⟩
  obtain ⟨x, dx, es, n1, tI, tB, tS, rfl, m1, m2, g1, g2, g3, v1, v2, v3, y1, y2⟩ := Ty
  have m1 := Bs.s _ m1
  have m2 := Bs.s _ m2
  unfold Runs
  w_top off
  k_fill
  intro p loose mean mg mb dp un gd cn cs a ccd cl outer A₀ base h₀ L m s Q E B F X N T hk hd hu hret
  refine wpAny_call ?_
  k_dflt (refine' code_defC ?k1 ?k2 ?k3 ?k4 ?k5 ?kA ?kF ?kK ?k6 ?k7 ?k8 ?k9 ?kB ?kD ?_ ?c2 ?c3 ?c4; (case kA => exact rfl); (case kF => exact rfl); (case kK => first | exact rfl | assumption); (case k1 => k_asm); (case k2 => k_asm); (case k3 => k_asm); (case k4 => k_asm); (case k5 => k_asm); (case k6 => k_is); (case k7 => k_is); (case k8 => ktr_room); (case k9 => first | exact BindsTo.of_eq rfl | exact binds_K (by k_in) rfl (by k_is) rfl rfl rfl); (case kB => exact rfl); (case kD => decide +kernel); (case c2 => exact rfl); (case c3 => exact rfl); (case c4 => exact rfl); k_whole; intro _ _ _ _ _ _ _ N' Y' B' _ _ _; k_cells Y'; (try simp only [List.cons_append, List.nil_append] at N'); (try dsimp only); (try k_lift B'); (try k_fold))
  repeat' (first | (k_unfold; (try dsimp only)) | (k_end; wrow_close) | ((with_reducible show wpAny _ _ (call (Value.ref _) _ _) _ _ _); first | (k_here; k_dflt (refine' Runs.useN (node4_ok _ _ _ _ _ _ _ _ _ ?ml ?vt) (F := by k_asm) (B := by k_asm) (X := by k_asm) (T := by k_asm) (hk := by first | exact rfl | assumption) (N := ?N) (hd := ?hd) (hu := ?hu) (ret := ?_); (case N => k_asm); (case ml => k_mem); (case vt => assumption); (case hd => refine' room_d ?hdh9 ?hde9 ?hdx9; (case hdh9 => with_reducible assumption); (case hde9 => exact rfl); (case hdx9 => exact room_k (by decide))); (case hu => refine' room_u 3 ?huh9 ?hue9 ?hux9; (case huh9 => with_reducible assumption); (case hue9 => exact rfl); (case hux9 => exact room_k (by decide))); intro _ _ _ _ _ _ _ _ _; (try dsimp only); k_sweep)) | (k_here; k_dflt (refine' Runs.useT (TOk.run ?P9 ?P8 ?hz ?C ?H ?S9 ?T9 ?hk9 ?D9) (F := by k_asm) (B := by k_asm) (X := by k_asm) (T := by k_asm) (hk := by first | exact rfl | assumption) (N := ?N) (hd := ?hd) (hu := ?hu) (ret := ?_); (case P9 => with_reducible assumption); (case P8 => exact dn_ne (by with_reducible assumption) (by with_reducible assumption)); (case N => first | k_asm | exact News.sw (by k_asm) | exact News.sw3 (by k_asm) | exact News.sw4 (by k_asm) | exact News.sw5 (by k_asm)); (case hz => k_all); (case C => exact Cells.mono (by assumption) (fun p hp => by k_mem)); (case T9 => assumption); (case S9 => exact Base.mono (by assumption) (fun p hp => by k_mem)); (case H => first | exact HOk.dec (by assumption) (by assumption) | assumption); (case hk9 => assumption); (case D9 => exact dn_d9 (by with_reducible assumption) (by with_reducible assumption)); (case hd => refine' room_d ?hdh9 ?hde9 ?hdx9; (case hdh9 => with_reducible assumption); (case hde9 => exact rfl); (case hdx9 => (first | exact room_k (by decide) | exact dn_room (by with_reducible assumption) (by with_reducible assumption)))); (case hu => refine' room_u _ ?huh9 ?hue9 ?hux9; (case huh9 => with_reducible assumption); (case hue9 => exact rfl); (case hux9 => (first | exact room_k (by decide) | exact dn_room (by with_reducible assumption) (by with_reducible assumption)))); intro _ _ _ _ _ _ _ _ _ _ _ _ _ _ _ _ _ _ _ _ _ _; (try dsimp only); k_sweep)) | (k_here; k_dflt (refine' Runs.useN (node4_ok _ _ _ _ _ _ _ [_, _] _ ?ml ?vt) (F := by k_asm) (B := by k_asm) (X := by k_asm) (T := by k_asm) (hk := by first | exact rfl | assumption) (N := ?N) (hd := ?hd) (hu := ?hu) (ret := ?_); (case N => k_asm); (case ml => k_mem); (case vt => assumption); (case hd => refine' room_d ?hdh9 ?hde9 ?hdx9; (case hdh9 => with_reducible assumption); (case hde9 => exact rfl); (case hdx9 => (first | exact room_k (by decide) | exact dn_room (by with_reducible assumption) (by with_reducible assumption)))); (case hu => refine' room_u 3 ?huh9 ?hue9 ?hux9; (case huh9 => with_reducible assumption); (case hue9 => exact rfl); (case hux9 => (first | exact room_k (by decide) | exact dn_room (by with_reducible assumption) (by with_reducible assumption)))); intro _ _ _ _ _ _ _ _ _; (try dsimp only); k_sweep)) | (k_here; k_dflt (refine' Runs.useN (node4_ok _ _ _ _ _ _ _ [_] _ ?ml ?vt) (F := by k_asm) (B := by k_asm) (X := by k_asm) (T := by k_asm) (hk := by first | exact rfl | assumption) (N := ?N) (hd := ?hd) (hu := ?hu) (ret := ?_); (case N => k_asm); (case ml => k_mem); (case vt => assumption); (case hd => refine' room_d ?hdh9 ?hde9 ?hdx9; (case hdh9 => with_reducible assumption); (case hde9 => exact rfl); (case hdx9 => (first | exact room_k (by decide) | exact dn_room (by with_reducible assumption) (by with_reducible assumption)))); (case hu => refine' room_u 3 ?huh9 ?hue9 ?hux9; (case huh9 => with_reducible assumption); (case hue9 => exact rfl); (case hux9 => (first | exact room_k (by decide) | exact dn_room (by with_reducible assumption) (by with_reducible assumption)))); intro _ _ _ _ _ _ _ _ _; (try dsimp only); k_sweep)) | (k_here; k_dflt (refine' Runs.useN (node5_ok _ _ _ _ _ _ _ _ [] _ ?ml ?vt ?vv) (F := by k_asm) (B := by k_asm) (X := by k_asm) (T := by k_asm) (hk := by first | exact rfl | assumption) (N := ?N) (hd := ?hd) (hu := ?hu) (ret := ?_); (case N => k_asm); (case ml => k_mem); (case vt => assumption); (case vv => first | rfl | assumption); (case hd => refine' room_d ?hdh9 ?hde9 ?hdx9; (case hdh9 => with_reducible assumption); (case hde9 => exact rfl); (case hdx9 => (first | exact room_k (by decide) | exact dn_room (by with_reducible assumption) (by with_reducible assumption)))); (case hu => refine' room_u 3 ?huh9 ?hue9 ?hux9; (case huh9 => with_reducible assumption); (case hue9 => exact rfl); (case hux9 => (first | exact room_k (by decide) | exact dn_room (by with_reducible assumption) (by with_reducible assumption)))); intro _ _ _ _ _ _ _ _ _; (try dsimp only); k_sweep)) | (k_here; k_dflt (refine' Runs.usePk (pick_h _ ?hz ?C ?H ?l0 ?l1) (F := by k_asm) (B := by k_asm) (X := by k_asm) (T := by k_asm) (hk := by first | exact rfl | assumption) (N := ?N) (hd := ?hd) (hu := ?hu) (ret := ?_); (case N => first | k_asm | exact News.sw (by k_asm) | exact News.sw3 (by k_asm) | exact News.sw4 (by k_asm) | exact News.sw5 (by k_asm)); (case hz => k_all); (case C => exact Cells.mono (by assumption) (fun p hp => by k_mem)); (case H => first | assumption | exact HOk.dec (by assumption) (by assumption)); (case l0 => decide); (case l1 => decide); (case hd => refine' room_d ?hdh9 ?hde9 ?hdx9; (case hdh9 => with_reducible assumption); (case hde9 => exact rfl); (case hdx9 => (first | exact room_k (by decide) | exact dn_room (by with_reducible assumption) (by with_reducible assumption)))); (case hu => refine' room_u 1 ?huh9 ?hue9 ?hux9; (case huh9 => with_reducible assumption); (case hue9 => exact rfl); (case hux9 => (first | exact room_k (by decide) | exact dn_room (by with_reducible assumption) (by with_reducible assumption)))); intro _ _ _ _ _ _ _ _ _ _ _ _ _ _ _ _ _; (try dsimp only); k_sweep)) | (k_here; k_dflt (refine' Runs.useV (var_ok _ _ _ _ _ _ _ ?T9 ?hk9 ?i0 ?i1) (F := by k_asm) (B := by k_asm) (X := by k_asm) (T := by k_asm) (hk := by first | exact rfl | assumption) (N := ?N) (hd := ?hd) (hu := ?hu) (ret := ?_); (case N => k_asm); (case T9 => exact TypesO.mono (TypesO.mono (by assumption) (Base.s (by assumption))) (fun p hp => by k_mem)); (case hk9 => assumption); (case i0 => assumption); (case i1 => assumption); (case hd => refine' room_d ?hdh9 ?hde9 ?hdx9; (case hdh9 => with_reducible assumption); (case hde9 => exact rfl); (case hdx9 => (first | exact room_k (by decide) | exact dn_room (by with_reducible assumption) (by with_reducible assumption)))); (case hu => refine' room_u 6 ?huh9 ?hue9 ?hux9; (case huh9 => with_reducible assumption); (case hue9 => exact rfl); (case hux9 => (first | exact room_k (by decide) | exact dn_room (by with_reducible assumption) (by with_reducible assumption)))); intro _ _ _ _ _ _ _ _ _ _ _ _; (try dsimp only); k_sweep))) | ((with_reducible show wpAny _ _ (call (Value.builtin "list.append") _ _) _ _ _); first | (k_here; k_dflt (refine' row_append ?F ?N ?U ?z ?_; (case F => k_asm); (case N => k_asm); (case U => k_upd); (case z => exact Nat.le_trans (by with_reducible assumption) (by decide))); (intro _ _ _; k_sweep))) | ((with_reducible show wpAny _ _ (subscriptTail _ _ _ _) _ _ _); first | (k_here; (with_reducible refine' row_pick ?N ?ma ?I ?a ?b ?z ?_); k_dflt (skip; (case N => k_asm); (case ma => k_mem); (case I => first | exact .cons (.cons (.cons .nil)) | exact .cons (.cons (.cons (.cons .nil))) | exact .cons (.cons (.cons (.cons (.cons .nil)))) | exact .cons (.cons (.cons (.cons (.cons (.cons .nil)))))); (case a => assumption); (case b => assumption); (case z => decide)); intro _ _ _)) | ((with_reducible show wpAny _ _ (getAttr (Value.ref _) _ _) _ _ _); first | (k_here; k_dflt (refine' get_own ?k1 ?k2 ?k3 ?k4 ?k5 ?k6 ?k7 ?k8 ?k9 ?_; (case k1 => k_asm); (case k2 => k_asm); (case k3 => k_inst); (case k4 => k_is); (case k5 => k_is); (case k6 => k_is); (case k7 => k_is); (case k8 => assumption); (case k9 => first | rfl | assumption); k_whole))) | ((with_reducible show wpAny _ _ (isTrue (Expr.BoolOp BoolOp.Or _ _) _ _) _ _ _); first | (k_here; (with_reducible show wpAny _ _ (isTrue (Expr.BoolOp BoolOp.Or _ _) _ _) _ _ _); k_dflt (refine' or_cut ?mk ?h ?k1 ?k2; (case mk => assumption); (case h => ((with_reducible rename LeafMark _ _ => hmk); clear hmk; (repeat' (first | (k_unfold; (try dsimp only)) | (k_end; wrow_close) | ((with_reducible show wpAny _ _ (call (Value.ref _) _ _) _ _ _); first | (k_here; k_dflt (refine' Runs.useN (node4_ok _ _ _ _ _ _ _ _ _ ?ml ?vt) (F := by k_asm) (B := by k_asm) (X := by k_asm) (T := by k_asm) (hk := by first | exact rfl | assumption) (N := ?N) (hd := ?hd) (hu := ?hu) (ret := ?_); (case N => k_asm); (case ml => k_mem); (case vt => assumption); (case hd => refine' room_d ?hdh9 ?hde9 ?hdx9; (case hdh9 => with_reducible assumption); (case hde9 => exact rfl); (case hdx9 => exact room_k (by decide))); (case hu => refine' room_u 3 ?huh9 ?hue9 ?hux9; (case huh9 => with_reducible assumption); (case hue9 => exact rfl); (case hux9 => exact room_k (by decide))); intro _ _ _ _ _ _ _ _ _; (try dsimp only); k_sweep)) | (k_here; k_dflt (refine' Runs.useT (TOk.run ?P9 ?P8 ?hz ?C ?H ?S9 ?T9 ?hk9 ?D9) (F := by k_asm) (B := by k_asm) (X := by k_asm) (T := by k_asm) (hk := by first | exact rfl | assumption) (N := ?N) (hd := ?hd) (hu := ?hu) (ret := ?_); (case P9 => with_reducible assumption); (case P8 => exact dn_ne (by with_reducible assumption) (by with_reducible assumption)); (case N => first | k_asm | exact News.sw (by k_asm) | exact News.sw3 (by k_asm) | exact News.sw4 (by k_asm) | exact News.sw5 (by k_asm)); (case hz => k_all); (case C => exact Cells.mono (by assumption) (fun p hp => by k_mem)); (case T9 => assumption); (case S9 => exact Base.mono (by assumption) (fun p hp => by k_mem)); (case H => first | exact HOk.dec (by assumption) (by assumption) | assumption); (case hk9 => assumption); (case D9 => exact dn_d9 (by with_reducible assumption) (by with_reducible assumption)); (case hd => refine' room_d ?hdh9 ?hde9 ?hdx9; (case hdh9 => with_reducible assumption); (case hde9 => exact rfl); (case hdx9 => (first | exact room_k (by decide) | exact dn_room (by with_reducible assumption) (by with_reducible assumption)))); (case hu => refine' room_u _ ?huh9 ?hue9 ?hux9; (case huh9 => with_reducible assumption); (case hue9 => exact rfl); (case hux9 => (first | exact room_k (by decide) | exact dn_room (by with_reducible assumption) (by with_reducible assumption)))); intro _ _ _ _ _ _ _ _ _ _ _ _ _ _ _ _ _ _ _ _ _ _; (try dsimp only); k_sweep)) | (k_here; k_dflt (refine' Runs.useN (node4_ok _ _ _ _ _ _ _ [_, _] _ ?ml ?vt) (F := by k_asm) (B := by k_asm) (X := by k_asm) (T := by k_asm) (hk := by first | exact rfl | assumption) (N := ?N) (hd := ?hd) (hu := ?hu) (ret := ?_); (case N => k_asm); (case ml => k_mem); (case vt => assumption); (case hd => refine' room_d ?hdh9 ?hde9 ?hdx9; (case hdh9 => with_reducible assumption); (case hde9 => exact rfl); (case hdx9 => (first | exact room_k (by decide) | exact dn_room (by with_reducible assumption) (by with_reducible assumption)))); (case hu => refine' room_u 3 ?huh9 ?hue9 ?hux9; (case huh9 => with_reducible assumption); (case hue9 => exact rfl); (case hux9 => (first | exact room_k (by decide) | exact dn_room (by with_reducible assumption) (by with_reducible assumption)))); intro _ _ _ _ _ _ _ _ _; (try dsimp only); k_sweep)) | (k_here; k_dflt (refine' Runs.useN (node4_ok _ _ _ _ _ _ _ [_] _ ?ml ?vt) (F := by k_asm) (B := by k_asm) (X := by k_asm) (T := by k_asm) (hk := by first | exact rfl | assumption) (N := ?N) (hd := ?hd) (hu := ?hu) (ret := ?_); (case N => k_asm); (case ml => k_mem); (case vt => assumption); (case hd => refine' room_d ?hdh9 ?hde9 ?hdx9; (case hdh9 => with_reducible assumption); (case hde9 => exact rfl); (case hdx9 => (first | exact room_k (by decide) | exact dn_room (by with_reducible assumption) (by with_reducible assumption)))); (case hu => refine' room_u 3 ?huh9 ?hue9 ?hux9; (case huh9 => with_reducible assumption); (case hue9 => exact rfl); (case hux9 => (first | exact room_k (by decide) | exact dn_room (by with_reducible assumption) (by with_reducible assumption)))); intro _ _ _ _ _ _ _ _ _; (try dsimp only); k_sweep)) | (k_here; k_dflt (refine' Runs.useN (node5_ok _ _ _ _ _ _ _ _ [] _ ?ml ?vt ?vv) (F := by k_asm) (B := by k_asm) (X := by k_asm) (T := by k_asm) (hk := by first | exact rfl | assumption) (N := ?N) (hd := ?hd) (hu := ?hu) (ret := ?_); (case N => k_asm); (case ml => k_mem); (case vt => assumption); (case vv => first | rfl | assumption); (case hd => refine' room_d ?hdh9 ?hde9 ?hdx9; (case hdh9 => with_reducible assumption); (case hde9 => exact rfl); (case hdx9 => (first | exact room_k (by decide) | exact dn_room (by with_reducible assumption) (by with_reducible assumption)))); (case hu => refine' room_u 3 ?huh9 ?hue9 ?hux9; (case huh9 => with_reducible assumption); (case hue9 => exact rfl); (case hux9 => (first | exact room_k (by decide) | exact dn_room (by with_reducible assumption) (by with_reducible assumption)))); intro _ _ _ _ _ _ _ _ _; (try dsimp only); k_sweep)) | (k_here; k_dflt (refine' Runs.usePk (pick_h _ ?hz ?C ?H ?l0 ?l1) (F := by k_asm) (B := by k_asm) (X := by k_asm) (T := by k_asm) (hk := by first | exact rfl | assumption) (N := ?N) (hd := ?hd) (hu := ?hu) (ret := ?_); (case N => first | k_asm | exact News.sw (by k_asm) | exact News.sw3 (by k_asm) | exact News.sw4 (by k_asm) | exact News.sw5 (by k_asm)); (case hz => k_all); (case C => exact Cells.mono (by assumption) (fun p hp => by k_mem)); (case H => first | assumption | exact HOk.dec (by assumption) (by assumption)); (case l0 => decide); (case l1 => decide); (case hd => refine' room_d ?hdh9 ?hde9 ?hdx9; (case hdh9 => with_reducible assumption); (case hde9 => exact rfl); (case hdx9 => (first | exact room_k (by decide) | exact dn_room (by with_reducible assumption) (by with_reducible assumption)))); (case hu => refine' room_u 1 ?huh9 ?hue9 ?hux9; (case huh9 => with_reducible assumption); (case hue9 => exact rfl); (case hux9 => (first | exact room_k (by decide) | exact dn_room (by with_reducible assumption) (by with_reducible assumption)))); intro _ _ _ _ _ _ _ _ _ _ _ _ _ _ _ _ _; (try dsimp only); k_sweep)) | (k_here; k_dflt (refine' Runs.useV (var_ok _ _ _ _ _ _ _ ?T9 ?hk9 ?i0 ?i1) (F := by k_asm) (B := by k_asm) (X := by k_asm) (T := by k_asm) (hk := by first | exact rfl | assumption) (N := ?N) (hd := ?hd) (hu := ?hu) (ret := ?_); (case N => k_asm); (case T9 => exact TypesO.mono (TypesO.mono (by assumption) (Base.s (by assumption))) (fun p hp => by k_mem)); (case hk9 => assumption); (case i0 => assumption); (case i1 => assumption); (case hd => refine' room_d ?hdh9 ?hde9 ?hdx9; (case hdh9 => with_reducible assumption); (case hde9 => exact rfl); (case hdx9 => (first | exact room_k (by decide) | exact dn_room (by with_reducible assumption) (by with_reducible assumption)))); (case hu => refine' room_u 6 ?huh9 ?hue9 ?hux9; (case huh9 => with_reducible assumption); (case hue9 => exact rfl); (case hux9 => (first | exact room_k (by decide) | exact dn_room (by with_reducible assumption) (by with_reducible assumption)))); intro _ _ _ _ _ _ _ _ _ _ _ _; (try dsimp only); k_sweep))) | ((with_reducible show wpAny _ _ (call (Value.builtin "list.append") _ _) _ _ _); first | (k_here; k_dflt (refine' row_append ?F ?N ?U ?z ?_; (case F => k_asm); (case N => k_asm); (case U => k_upd); (case z => exact Nat.le_trans (by with_reducible assumption) (by decide))); (intro _ _ _; k_sweep))) | ((with_reducible show wpAny _ _ (subscriptTail _ _ _ _) _ _ _); first | (k_here; (with_reducible refine' row_pick ?N ?ma ?I ?a ?b ?z ?_); k_dflt (skip; (case N => k_asm); (case ma => k_mem); (case I => first | exact .cons (.cons (.cons .nil)) | exact .cons (.cons (.cons (.cons .nil))) | exact .cons (.cons (.cons (.cons (.cons .nil)))) | exact .cons (.cons (.cons (.cons (.cons (.cons .nil)))))); (case a => assumption); (case b => assumption); (case z => decide)); intro _ _ _)) | ((with_reducible show wpAny _ _ (getAttr (Value.ref _) _ _) _ _ _); first | (k_here; k_dflt (refine' get_own ?k1 ?k2 ?k3 ?k4 ?k5 ?k6 ?k7 ?k8 ?k9 ?_; (case k1 => k_asm); (case k2 => k_asm); (case k3 => k_inst); (case k4 => k_is); (case k5 => k_is); (case k6 => k_is); (case k7 => k_is); (case k8 => assumption); (case k9 => first | rfl | assumption); k_whole))) | ((with_reducible show wpAny _ _ (eval (Expr.Name _ _) _) _ _ _); first | (k_here; (with_reducible show wpAny _ _ (eval (Expr.Name (Str.ofString "pieces") _) _) _ _ _); k_dflt (refine' nameX_L ?F ?v ?_ ?a ?b; (case F => k_asm); (case a => rfl); (case b => rfl); (case v => ((try dsimp only); (repeat (refine Eq.trans (if_neg (by decide +kernel)) ?_)); with_reducible assumption)); k_whole))) | walk1 | (dsimp only; walk1) | (leave1; walk_say "STEP leave1"; try dsimp only) | fail "no step")); all_goals (first | (with_reducible assumption) | exact absurd (by with_reducible assumption : true = false) Bool.noConfusion))); (case' k1 => (intro tk'; (try dsimp only))); (case' k2 => (intro _ _ _; (try dsimp only)))))) | ((with_reducible show wpAny _ _ (eval (Expr.Name _ _) _) _ _ _); first | (k_here; (with_reducible show wpAny _ _ (eval (Expr.Name (Str.ofString "pieces") _) _) _ _ _); k_dflt (refine' nameX_L ?F ?v ?_ ?a ?b; (case F => k_asm); (case a => rfl); (case b => rfl); (case v => ((try dsimp only); (repeat (refine Eq.trans (if_neg (by decide +kernel)) ?_)); with_reducible assumption)); k_whole))) | walk1 | (dsimp only; walk1) | (leave1; walk_say "STEP leave1"; try dsimp only) | fail "no step")
  · rename_i T9 H9 Y9 Z9 D9 G9 v9 lk h'' l1 r8 h8 t8 F8 tl8 Y8 O8 v8 N8 kF kN Tc kX
    exact end_node (P := fun r _ h' tk' => Q r { s with heap := h', toks := tk' }) (kids := [_]) hret kF _ kN s_un H9 Y8 (Nat.ne_of_lt l1.1) (fun p hp => Nat.ne_of_lt (ktn_ltOf l1.2 p (List.mem_append_right _ (s3 p hp)))) (Fre.sub Y9 s3) Z9 O8 (fun L sub O => .neg O (.inr rfl) (D9.mono sub)) (tf_neg (dn_ne hdp (by with_reducible assumption)) G9) v8
  · refine Held.mk ?_
    rename_i lk h1 l1 h2 h9 t9 F2 i9 j9 k9 d9 u91 u92 u93 u94 u95 c9 H9 l9 m9 N2 h3 tk3 t3a t3b t3c R3 F3 N3 K3
    k_dflt refine' range_inv (n := d9.toNat) (SetJ bz fz _ _ _ ha cells lk cv n dn) rfl R3 (small_up l9 (sm3 m9)) (rangeSize_up _) F3 (News.sw N3) (setJ_nil rfl H9) ?turn ?done
    case turn =>
      clear mk
      clear F3 N3 R3 K3 F2 N2
      intro I ii m₁ news₁ t h tk hi hJ hI F₁ N₁
      obtain ⟨pv, ps, pk, tl, i', j', k', n', t1', t2', t3', t4', c', hm1, rfl, Hh, z1, z2, z3, P1, z5, z6⟩ := hJ
      have hlk : ha ≠ lk := Nat.ne_of_lt l1.1
      have hpl : pv.length ≤ 2 := Nat.le_trans (Nat.le_of_eq (P1.len.trans z5)) (len2 hi m9)
      have hIl : I ≠ lk := (hI _ (.head _)).symm
      have hIh : I ≠ ha := (hI _ (.tail _ (.head _))).symm
      repeat' (first | (k_unfold; (try dsimp only)) | (k_end; wrow_close) | ((with_reducible show wpAny _ _ (call (Value.ref _) _ _) _ _ _); first | (k_here; k_dflt (refine' Runs.useN (node4_ok _ _ _ _ _ _ _ _ _ ?ml ?vt) (F := by k_asm) (B := by k_asm) (X := by k_asm) (T := by k_asm) (hk := by first | exact rfl | assumption) (N := ?N) (hd := ?hd) (hu := ?hu) (ret := ?_); (case N => k_asm); (case ml => k_mem); (case vt => assumption); (case hd => refine' room_d ?hdh9 ?hde9 ?hdx9; (case hdh9 => with_reducible assumption); (case hde9 => exact rfl); (case hdx9 => exact room_k (by decide))); (case hu => refine' room_u 3 ?huh9 ?hue9 ?hux9; (case huh9 => with_reducible assumption); (case hue9 => exact rfl); (case hux9 => exact room_k (by decide))); intro _ _ _ _ _ _ _ _ _; (try dsimp only); k_sweep)) | (k_here; k_dflt (refine' Runs.useT (TOk.run ?P9 ?P8 ?hz ?C ?H ?S9 ?T9 ?hk9 ?D9) (F := by k_asm) (B := by k_asm) (X := by k_asm) (T := by k_asm) (hk := by first | exact rfl | assumption) (N := ?N) (hd := ?hd) (hu := ?hu) (ret := ?_); (case P9 => with_reducible assumption); (case P8 => exact dn_ne (by with_reducible assumption) (by with_reducible assumption)); (case N => first | k_asm | exact News.sw (by k_asm) | exact News.sw3 (by k_asm) | exact News.sw4 (by k_asm) | exact News.sw5 (by k_asm)); (case hz => k_all); (case C => exact Cells.mono (by assumption) (fun p hp => by k_mem)); (case T9 => assumption); (case S9 => exact Base.mono (by assumption) (fun p hp => by k_mem)); (case H => first | exact HOk.dec (by assumption) (by assumption) | assumption); (case hk9 => assumption); (case D9 => exact dn_d9 (by with_reducible assumption) (by with_reducible assumption)); (case hd => refine' room_d ?hdh9 ?hde9 ?hdx9; (case hdh9 => with_reducible assumption); (case hde9 => exact rfl); (case hdx9 => (first | exact room_k (by decide) | exact dn_room (by with_reducible assumption) (by with_reducible assumption)))); (case hu => refine' room_u _ ?huh9 ?hue9 ?hux9; (case huh9 => with_reducible assumption); (case hue9 => exact rfl); (case hux9 => (first | exact room_k (by decide) | exact dn_room (by with_reducible assumption) (by with_reducible assumption)))); intro _ _ _ _ _ _ _ _ _ _ _ _ _ _ _ _ _ _ _ _ _ _; (try dsimp only); k_sweep)) | (k_here; k_dflt (refine' Runs.useN (node4_ok _ _ _ _ _ _ _ [_, _] _ ?ml ?vt) (F := by k_asm) (B := by k_asm) (X := by k_asm) (T := by k_asm) (hk := by first | exact rfl | assumption) (N := ?N) (hd := ?hd) (hu := ?hu) (ret := ?_); (case N => k_asm); (case ml => k_mem); (case vt => assumption); (case hd => refine' room_d ?hdh9 ?hde9 ?hdx9; (case hdh9 => with_reducible assumption); (case hde9 => exact rfl); (case hdx9 => (first | exact room_k (by decide) | exact dn_room (by with_reducible assumption) (by with_reducible assumption)))); (case hu => refine' room_u 3 ?huh9 ?hue9 ?hux9; (case huh9 => with_reducible assumption); (case hue9 => exact rfl); (case hux9 => (first | exact room_k (by decide) | exact dn_room (by with_reducible assumption) (by with_reducible assumption)))); intro _ _ _ _ _ _ _ _ _; (try dsimp only); k_sweep)) | (k_here; k_dflt (refine' Runs.useN (node4_ok _ _ _ _ _ _ _ [_] _ ?ml ?vt) (F := by k_asm) (B := by k_asm) (X := by k_asm) (T := by k_asm) (hk := by first | exact rfl | assumption) (N := ?N) (hd := ?hd) (hu := ?hu) (ret := ?_); (case N => k_asm); (case ml => k_mem); (case vt => assumption); (case hd => refine' room_d ?hdh9 ?hde9 ?hdx9; (case hdh9 => with_reducible assumption); (case hde9 => exact rfl); (case hdx9 => (first | exact room_k (by decide) | exact dn_room (by with_reducible assumption) (by with_reducible assumption)))); (case hu => refine' room_u 3 ?huh9 ?hue9 ?hux9; (case huh9 => with_reducible assumption); (case hue9 => exact rfl); (case hux9 => (first | exact room_k (by decide) | exact dn_room (by with_reducible assumption) (by with_reducible assumption)))); intro _ _ _ _ _ _ _ _ _; (try dsimp only); k_sweep)) | (k_here; k_dflt (refine' Runs.useN (node5_ok _ _ _ _ _ _ _ _ [] _ ?ml ?vt ?vv) (F := by k_asm) (B := by k_asm) (X := by k_asm) (T := by k_asm) (hk := by first | exact rfl | assumption) (N := ?N) (hd := ?hd) (hu := ?hu) (ret := ?_); (case N => k_asm); (case ml => k_mem); (case vt => assumption); (case vv => first | rfl | assumption); (case hd => refine' room_d ?hdh9 ?hde9 ?hdx9; (case hdh9 => with_reducible assumption); (case hde9 => exact rfl); (case hdx9 => (first | exact room_k (by decide) | exact dn_room (by with_reducible assumption) (by with_reducible assumption)))); (case hu => refine' room_u 3 ?huh9 ?hue9 ?hux9; (case huh9 => with_reducible assumption); (case hue9 => exact rfl); (case hux9 => (first | exact room_k (by decide) | exact dn_room (by with_reducible assumption) (by with_reducible assumption)))); intro _ _ _ _ _ _ _ _ _; (try dsimp only); k_sweep)) | (k_here; k_dflt (refine' Runs.usePk (pick_h _ ?hz ?C ?H ?l0 ?l1) (F := by k_asm) (B := by k_asm) (X := by k_asm) (T := by k_asm) (hk := by first | exact rfl | assumption) (N := ?N) (hd := ?hd) (hu := ?hu) (ret := ?_); (case N => first | k_asm | exact News.sw (by k_asm) | exact News.sw3 (by k_asm) | exact News.sw4 (by k_asm) | exact News.sw5 (by k_asm)); (case hz => k_all); (case C => exact Cells.mono (by assumption) (fun p hp => by k_mem)); (case H => first | assumption | exact HOk.dec (by assumption) (by assumption)); (case l0 => decide); (case l1 => decide); (case hd => refine' room_d ?hdh9 ?hde9 ?hdx9; (case hdh9 => with_reducible assumption); (case hde9 => exact rfl); (case hdx9 => (first | exact room_k (by decide) | exact dn_room (by with_reducible assumption) (by with_reducible assumption)))); (case hu => refine' room_u 1 ?huh9 ?hue9 ?hux9; (case huh9 => with_reducible assumption); (case hue9 => exact rfl); (case hux9 => (first | exact room_k (by decide) | exact dn_room (by with_reducible assumption) (by with_reducible assumption)))); intro _ _ _ _ _ _ _ _ _ _ _ _ _ _ _ _ _; (try dsimp only); k_sweep)) | (k_here; k_dflt (refine' Runs.useV (var_ok _ _ _ _ _ _ _ ?T9 ?hk9 ?i0 ?i1) (F := by k_asm) (B := by k_asm) (X := by k_asm) (T := by k_asm) (hk := by first | exact rfl | assumption) (N := ?N) (hd := ?hd) (hu := ?hu) (ret := ?_); (case N => k_asm); (case T9 => exact TypesO.mono (TypesO.mono (by assumption) (Base.s (by assumption))) (fun p hp => by k_mem)); (case hk9 => assumption); (case i0 => assumption); (case i1 => assumption); (case hd => refine' room_d ?hdh9 ?hde9 ?hdx9; (case hdh9 => with_reducible assumption); (case hde9 => exact rfl); (case hdx9 => (first | exact room_k (by decide) | exact dn_room (by with_reducible assumption) (by with_reducible assumption)))); (case hu => refine' room_u 6 ?huh9 ?hue9 ?hux9; (case huh9 => with_reducible assumption); (case hue9 => exact rfl); (case hux9 => (first | exact room_k (by decide) | exact dn_room (by with_reducible assumption) (by with_reducible assumption)))); intro _ _ _ _ _ _ _ _ _ _ _ _; (try dsimp only); k_sweep))) | ((with_reducible show wpAny _ _ (call (Value.builtin "list.append") _ _) _ _ _); first | (k_here; k_dflt (refine' row_append ?F ?N ?U ?z ?_; (case F => k_asm); (case N => k_asm); (case U => k_upd); (case z => exact Nat.le_trans (by with_reducible assumption) (by decide))); (intro _ _ _; k_sweep))) | ((with_reducible show wpAny _ _ (subscriptTail _ _ _ _) _ _ _); first | (k_here; (with_reducible refine' row_pick ?N ?ma ?I ?a ?b ?z ?_); k_dflt (skip; (case N => k_asm); (case ma => k_mem); (case I => first | exact .cons (.cons (.cons .nil)) | exact .cons (.cons (.cons (.cons .nil))) | exact .cons (.cons (.cons (.cons (.cons .nil)))) | exact .cons (.cons (.cons (.cons (.cons (.cons .nil)))))); (case a => assumption); (case b => assumption); (case z => decide)); intro _ _ _)) | ((with_reducible show wpAny _ _ (getAttr (Value.ref _) _ _) _ _ _); first | (k_here; k_dflt (refine' get_own ?k1 ?k2 ?k3 ?k4 ?k5 ?k6 ?k7 ?k8 ?k9 ?_; (case k1 => k_asm); (case k2 => k_asm); (case k3 => k_inst); (case k4 => k_is); (case k5 => k_is); (case k6 => k_is); (case k7 => k_is); (case k8 => assumption); (case k9 => first | rfl | assumption); k_whole))) | ((with_reducible show wpAny _ _ (isTrue (Expr.BoolOp BoolOp.Or _ _) _ _) _ _ _); first | (k_here; (with_reducible show wpAny _ _ (isTrue (Expr.BoolOp BoolOp.Or _ _) _ _) _ _ _); k_dflt (refine' or_cut ?mk ?h ?k1 ?k2; (case mk => assumption); (case h => ((with_reducible rename LeafMark _ _ => hmk); clear hmk; (repeat' (first | (k_unfold; (try dsimp only)) | (k_end; wrow_close) | ((with_reducible show wpAny _ _ (call (Value.ref _) _ _) _ _ _); first | (k_here; k_dflt (refine' Runs.useN (node4_ok _ _ _ _ _ _ _ _ _ ?ml ?vt) (F := by k_asm) (B := by k_asm) (X := by k_asm) (T := by k_asm) (hk := by first | exact rfl | assumption) (N := ?N) (hd := ?hd) (hu := ?hu) (ret := ?_); (case N => k_asm); (case ml => k_mem); (case vt => assumption); (case hd => refine' room_d ?hdh9 ?hde9 ?hdx9; (case hdh9 => with_reducible assumption); (case hde9 => exact rfl); (case hdx9 => exact room_k (by decide))); (case hu => refine' room_u 3 ?huh9 ?hue9 ?hux9; (case huh9 => with_reducible assumption); (case hue9 => exact rfl); (case hux9 => exact room_k (by decide))); intro _ _ _ _ _ _ _ _ _; (try dsimp only); k_sweep)) | (k_here; k_dflt (refine' Runs.useT (TOk.run ?P9 ?P8 ?hz ?C ?H ?S9 ?T9 ?hk9 ?D9) (F := by k_asm) (B := by k_asm) (X := by k_asm) (T := by k_asm) (hk := by first | exact rfl | assumption) (N := ?N) (hd := ?hd) (hu := ?hu) (ret := ?_); (case P9 => with_reducible assumption); (case P8 => exact dn_ne (by with_reducible assumption) (by with_reducible assumption)); (case N => first | k_asm | exact News.sw (by k_asm) | exact News.sw3 (by k_asm) | exact News.sw4 (by k_asm) | exact News.sw5 (by k_asm)); (case hz => k_all); (case C => exact Cells.mono (by assumption) (fun p hp => by k_mem)); (case T9 => assumption); (case S9 => exact Base.mono (by assumption) (fun p hp => by k_mem)); (case H => first | exact HOk.dec (by assumption) (by assumption) | assumption); (case hk9 => assumption); (case D9 => exact dn_d9 (by with_reducible assumption) (by with_reducible assumption)); (case hd => refine' room_d ?hdh9 ?hde9 ?hdx9; (case hdh9 => with_reducible assumption); (case hde9 => exact rfl); (case hdx9 => (first | exact room_k (by decide) | exact dn_room (by with_reducible assumption) (by with_reducible assumption)))); (case hu => refine' room_u _ ?huh9 ?hue9 ?hux9; (case huh9 => with_reducible assumption); (case hue9 => exact rfl); (case hux9 => (first | exact room_k (by decide) | exact dn_room (by with_reducible assumption) (by with_reducible assumption)))); intro _ _ _ _ _ _ _ _ _ _ _ _ _ _ _ _ _ _ _ _ _ _; (try dsimp only); k_sweep)) | (k_here; k_dflt (refine' Runs.useN (node4_ok _ _ _ _ _ _ _ [_, _] _ ?ml ?vt) (F := by k_asm) (B := by k_asm) (X := by k_asm) (T := by k_asm) (hk := by first | exact rfl | assumption) (N := ?N) (hd := ?hd) (hu := ?hu) (ret := ?_); (case N => k_asm); (case ml => k_mem); (case vt => assumption); (case hd => refine' room_d ?hdh9 ?hde9 ?hdx9; (case hdh9 => with_reducible assumption); (case hde9 => exact rfl); (case hdx9 => (first | exact room_k (by decide) | exact dn_room (by with_reducible assumption) (by with_reducible assumption)))); (case hu => refine' room_u 3 ?huh9 ?hue9 ?hux9; (case huh9 => with_reducible assumption); (case hue9 => exact rfl); (case hux9 => (first | exact room_k (by decide) | exact dn_room (by with_reducible assumption) (by with_reducible assumption)))); intro _ _ _ _ _ _ _ _ _; (try dsimp only); k_sweep)) | (k_here; k_dflt (refine' Runs.useN (node4_ok _ _ _ _ _ _ _ [_] _ ?ml ?vt) (F := by k_asm) (B := by k_asm) (X := by k_asm) (T := by k_asm) (hk := by first | exact rfl | assumption) (N := ?N) (hd := ?hd) (hu := ?hu) (ret := ?_); (case N => k_asm); (case ml => k_mem); (case vt => assumption); (case hd => refine' room_d ?hdh9 ?hde9 ?hdx9; (case hdh9 => with_reducible assumption); (case hde9 => exact rfl); (case hdx9 => (first | exact room_k (by decide) | exact dn_room (by with_reducible assumption) (by with_reducible assumption)))); (case hu => refine' room_u 3 ?huh9 ?hue9 ?hux9; (case huh9 => with_reducible assumption); (case hue9 => exact rfl); (case hux9 => (first | exact room_k (by decide) | exact dn_room (by with_reducible assumption) (by with_reducible assumption)))); intro _ _ _ _ _ _ _ _ _; (try dsimp only); k_sweep)) | (k_here; k_dflt (refine' Runs.useN (node5_ok _ _ _ _ _ _ _ _ [] _ ?ml ?vt ?vv) (F := by k_asm) (B := by k_asm) (X := by k_asm) (T := by k_asm) (hk := by first | exact rfl | assumption) (N := ?N) (hd := ?hd) (hu := ?hu) (ret := ?_); (case N => k_asm); (case ml => k_mem); (case vt => assumption); (case vv => first | rfl | assumption); (case hd => refine' room_d ?hdh9 ?hde9 ?hdx9; (case hdh9 => with_reducible assumption); (case hde9 => exact rfl); (case hdx9 => (first | exact room_k (by decide) | exact dn_room (by with_reducible assumption) (by with_reducible assumption)))); (case hu => refine' room_u 3 ?huh9 ?hue9 ?hux9; (case huh9 => with_reducible assumption); (case hue9 => exact rfl); (case hux9 => (first | exact room_k (by decide) | exact dn_room (by with_reducible assumption) (by with_reducible assumption)))); intro _ _ _ _ _ _ _ _ _; (try dsimp only); k_sweep)) | (k_here; k_dflt (refine' Runs.usePk (pick_h _ ?hz ?C ?H ?l0 ?l1) (F := by k_asm) (B := by k_asm) (X := by k_asm) (T := by k_asm) (hk := by first | exact rfl | assumption) (N := ?N) (hd := ?hd) (hu := ?hu) (ret := ?_); (case N => first | k_asm | exact News.sw (by k_asm) | exact News.sw3 (by k_asm) | exact News.sw4 (by k_asm) | exact News.sw5 (by k_asm)); (case hz => k_all); (case C => exact Cells.mono (by assumption) (fun p hp => by k_mem)); (case H => first | assumption | exact HOk.dec (by assumption) (by assumption)); (case l0 => decide); (case l1 => decide); (case hd => refine' room_d ?hdh9 ?hde9 ?hdx9; (case hdh9 => with_reducible assumption); (case hde9 => exact rfl); (case hdx9 => (first | exact room_k (by decide) | exact dn_room (by with_reducible assumption) (by with_reducible assumption)))); (case hu => refine' room_u 1 ?huh9 ?hue9 ?hux9; (case huh9 => with_reducible assumption); (case hue9 => exact rfl); (case hux9 => (first | exact room_k (by decide) | exact dn_room (by with_reducible assumption) (by with_reducible assumption)))); intro _ _ _ _ _ _ _ _ _ _ _ _ _ _ _ _ _; (try dsimp only); k_sweep)) | (k_here; k_dflt (refine' Runs.useV (var_ok _ _ _ _ _ _ _ ?T9 ?hk9 ?i0 ?i1) (F := by k_asm) (B := by k_asm) (X := by k_asm) (T := by k_asm) (hk := by first | exact rfl | assumption) (N := ?N) (hd := ?hd) (hu := ?hu) (ret := ?_); (case N => k_asm); (case T9 => exact TypesO.mono (TypesO.mono (by assumption) (Base.s (by assumption))) (fun p hp => by k_mem)); (case hk9 => assumption); (case i0 => assumption); (case i1 => assumption); (case hd => refine' room_d ?hdh9 ?hde9 ?hdx9; (case hdh9 => with_reducible assumption); (case hde9 => exact rfl); (case hdx9 => (first | exact room_k (by decide) | exact dn_room (by with_reducible assumption) (by with_reducible assumption)))); (case hu => refine' room_u 6 ?huh9 ?hue9 ?hux9; (case huh9 => with_reducible assumption); (case hue9 => exact rfl); (case hux9 => (first | exact room_k (by decide) | exact dn_room (by with_reducible assumption) (by with_reducible assumption)))); intro _ _ _ _ _ _ _ _ _ _ _ _; (try dsimp only); k_sweep))) | ((with_reducible show wpAny _ _ (call (Value.builtin "list.append") _ _) _ _ _); first | (k_here; k_dflt (refine' row_append ?F ?N ?U ?z ?_; (case F => k_asm); (case N => k_asm); (case U => k_upd); (case z => exact Nat.le_trans (by with_reducible assumption) (by decide))); (intro _ _ _; k_sweep))) | ((with_reducible show wpAny _ _ (subscriptTail _ _ _ _) _ _ _); first | (k_here; (with_reducible refine' row_pick ?N ?ma ?I ?a ?b ?z ?_); k_dflt (skip; (case N => k_asm); (case ma => k_mem); (case I => first | exact .cons (.cons (.cons .nil)) | exact .cons (.cons (.cons (.cons .nil))) | exact .cons (.cons (.cons (.cons (.cons .nil)))) | exact .cons (.cons (.cons (.cons (.cons (.cons .nil)))))); (case a => assumption); (case b => assumption); (case z => decide)); intro _ _ _)) | ((with_reducible show wpAny _ _ (getAttr (Value.ref _) _ _) _ _ _); first | (k_here; k_dflt (refine' get_own ?k1 ?k2 ?k3 ?k4 ?k5 ?k6 ?k7 ?k8 ?k9 ?_; (case k1 => k_asm); (case k2 => k_asm); (case k3 => k_inst); (case k4 => k_is); (case k5 => k_is); (case k6 => k_is); (case k7 => k_is); (case k8 => assumption); (case k9 => first | rfl | assumption); k_whole))) | ((with_reducible show wpAny _ _ (eval (Expr.Name _ _) _) _ _ _); first | (k_here; (with_reducible show wpAny _ _ (eval (Expr.Name (Str.ofString "pieces") _) _) _ _ _); k_dflt (refine' nameX_L ?F ?v ?_ ?a ?b; (case F => k_asm); (case a => rfl); (case b => rfl); (case v => ((try dsimp only); (repeat (refine Eq.trans (if_neg (by decide +kernel)) ?_)); with_reducible assumption)); k_whole))) | walk1 | (dsimp only; walk1) | (leave1; walk_say "STEP leave1"; try dsimp only) | fail "no step")); all_goals (first | (with_reducible assumption) | exact absurd (by with_reducible assumption : true = false) Bool.noConfusion))); (case' k1 => (intro tk'; (try dsimp only))); (case' k2 => (intro _ _ _; (try dsimp only)))))) | ((with_reducible show wpAny _ _ (eval (Expr.Name _ _) _) _ _ _); first | (k_here; (with_reducible show wpAny _ _ (eval (Expr.Name (Str.ofString "pieces") _) _) _ _ _); k_dflt (refine' nameX_L ?F ?v ?_ ?a ?b; (case F => k_asm); (case a => rfl); (case b => rfl); (case v => ((try dsimp only); (repeat (refine Eq.trans (if_neg (by decide +kernel)) ?_)); with_reducible assumption)); k_whole))) | walk1 | (dsimp only; walk1) | (leave1; walk_say "STEP leave1"; try dsimp only) | fail "no step")
      · rename_i T9 H9' Y9 Z9 D9 G9 v9 D' h1' tk1' o1 r8 h8 t8 tl8 Y8 O8 v8 h2' F' N'
        exact setJ_turn N' F' ((if_neg (by decide +kernel)).trans ((if_neg (by decide +kernel)).trans hm1)) H9' Y8 o1 (Fre.sub Y9 (fun q hq => .tail _ (.tail _ (.tail _ (.tail _ hq))))) Z9 hI z1 z2 z3 P1 z5 z6 O8 (fun L sub O => .one O (D9.mono sub)) (pc_one G9) G9.ops
      · rename_i Ta Ha Ya Za Da Ga va I' oI' C' oC' D1 m1' h1' tk1' E1 hC' off' ne' t9' hx' cE' r9 h9 t9 tl9 i9 j9 k9 n9' u91 u92 u93 u94 c9 T9 H9' Y9 Z9 D9 G9 v9 D' h3' tk3' o1 r8 h8 t8 tl8 Y8 O8 v8 h4' F' N'
        rw [← List.append_assoc] at N' o1
        exact setJ_turn N' F' ((if_neg (by decide +kernel)).trans ((if_neg (by decide +kernel)).trans hm1)) H9' (by rw [List.append_assoc]; exact Y8) o1 (fre_two (Fre.sub Ya (fun q hq => .tail _ (.tail _ (.tail _ (.tail _ hq))))) (Fre.sub Y9 (fun q hq => .tail _ (.tail _ (.tail _ (List.mem_append_right _ (.tail _ hq))))))) (all_app Z9 Za) hI z1 z2 z3 P1 z5 z6 O8 (fun L sub O => .rng O (Da.mono (sub_a sub)) (D9.mono (sub_b sub))) (pc_rng Ga G9) (ops2 Ga.ops G9.ops)
    case done =>
      clear mk
      clear F3 N3 R3 K3 F2 N2
      intro m₁ news₁ h tk hJ F₁ N₁
      obtain ⟨pv, ps, pk, tl, i', j', k', n', t1', t2', t3', t4', c', hm1, rfl, Hh, z1, z2, z3, P1, z5, z6⟩ := hJ
      have hlk : ha ≠ lk := Nat.ne_of_lt l1.1
      repeat' (first | (k_unfold; (try dsimp only)) | (k_end; wrow_close) | ((with_reducible show wpAny _ _ (call (Value.ref _) _ _) _ _ _); first | (k_here; k_dflt (refine' Runs.useN (node4_ok _ _ _ _ _ _ _ _ _ ?ml ?vt) (F := by k_asm) (B := by k_asm) (X := by k_asm) (T := by k_asm) (hk := by first | exact rfl | assumption) (N := ?N) (hd := ?hd) (hu := ?hu) (ret := ?_); (case N => k_asm); (case ml => k_mem); (case vt => assumption); (case hd => refine' room_d ?hdh9 ?hde9 ?hdx9; (case hdh9 => with_reducible assumption); (case hde9 => exact rfl); (case hdx9 => exact room_k (by decide))); (case hu => refine' room_u 3 ?huh9 ?hue9 ?hux9; (case huh9 => with_reducible assumption); (case hue9 => exact rfl); (case hux9 => exact room_k (by decide))); intro _ _ _ _ _ _ _ _ _; (try dsimp only); k_sweep)) | (k_here; k_dflt (refine' Runs.useT (TOk.run ?P9 ?P8 ?hz ?C ?H ?S9 ?T9 ?hk9 ?D9) (F := by k_asm) (B := by k_asm) (X := by k_asm) (T := by k_asm) (hk := by first | exact rfl | assumption) (N := ?N) (hd := ?hd) (hu := ?hu) (ret := ?_); (case P9 => with_reducible assumption); (case P8 => exact dn_ne (by with_reducible assumption) (by with_reducible assumption)); (case N => first | k_asm | exact News.sw (by k_asm) | exact News.sw3 (by k_asm) | exact News.sw4 (by k_asm) | exact News.sw5 (by k_asm)); (case hz => k_all); (case C => exact Cells.mono (by assumption) (fun p hp => by k_mem)); (case T9 => assumption); (case S9 => exact Base.mono (by assumption) (fun p hp => by k_mem)); (case H => first | exact HOk.dec (by assumption) (by assumption) | assumption); (case hk9 => assumption); (case D9 => exact dn_d9 (by with_reducible assumption) (by with_reducible assumption)); (case hd => refine' room_d ?hdh9 ?hde9 ?hdx9; (case hdh9 => with_reducible assumption); (case hde9 => exact rfl); (case hdx9 => (first | exact room_k (by decide) | exact dn_room (by with_reducible assumption) (by with_reducible assumption)))); (case hu => refine' room_u _ ?huh9 ?hue9 ?hux9; (case huh9 => with_reducible assumption); (case hue9 => exact rfl); (case hux9 => (first | exact room_k (by decide) | exact dn_room (by with_reducible assumption) (by with_reducible assumption)))); intro _ _ _ _ _ _ _ _ _ _ _ _ _ _ _ _ _ _ _ _ _ _; (try dsimp only); k_sweep)) | (k_here; k_dflt (refine' Runs.useN (node4_ok _ _ _ _ _ _ _ [_, _] _ ?ml ?vt) (F := by k_asm) (B := by k_asm) (X := by k_asm) (T := by k_asm) (hk := by first | exact rfl | assumption) (N := ?N) (hd := ?hd) (hu := ?hu) (ret := ?_); (case N => k_asm); (case ml => k_mem); (case vt => assumption); (case hd => refine' room_d ?hdh9 ?hde9 ?hdx9; (case hdh9 => with_reducible assumption); (case hde9 => exact rfl); (case hdx9 => (first | exact room_k (by decide) | exact dn_room (by with_reducible assumption) (by with_reducible assumption)))); (case hu => refine' room_u 3 ?huh9 ?hue9 ?hux9; (case huh9 => with_reducible assumption); (case hue9 => exact rfl); (case hux9 => (first | exact room_k (by decide) | exact dn_room (by with_reducible assumption) (by with_reducible assumption)))); intro _ _ _ _ _ _ _ _ _; (try dsimp only); k_sweep)) | (k_here; k_dflt (refine' Runs.useN (node4_ok _ _ _ _ _ _ _ [_] _ ?ml ?vt) (F := by k_asm) (B := by k_asm) (X := by k_asm) (T := by k_asm) (hk := by first | exact rfl | assumption) (N := ?N) (hd := ?hd) (hu := ?hu) (ret := ?_); (case N => k_asm); (case ml => k_mem); (case vt => assumption); (case hd => refine' room_d ?hdh9 ?hde9 ?hdx9; (case hdh9 => with_reducible assumption); (case hde9 => exact rfl); (case hdx9 => (first | exact room_k (by decide) | exact dn_room (by with_reducible assumption) (by with_reducible assumption)))); (case hu => refine' room_u 3 ?huh9 ?hue9 ?hux9; (case huh9 => with_reducible assumption); (case hue9 => exact rfl); (case hux9 => (first | exact room_k (by decide) | exact dn_room (by with_reducible assumption) (by with_reducible assumption)))); intro _ _ _ _ _ _ _ _ _; (try dsimp only); k_sweep)) | (k_here; k_dflt (refine' Runs.useN (node5_ok _ _ _ _ _ _ _ _ [] _ ?ml ?vt ?vv) (F := by k_asm) (B := by k_asm) (X := by k_asm) (T := by k_asm) (hk := by first | exact rfl | assumption) (N := ?N) (hd := ?hd) (hu := ?hu) (ret := ?_); (case N => k_asm); (case ml => k_mem); (case vt => assumption); (case vv => first | rfl | assumption); (case hd => refine' room_d ?hdh9 ?hde9 ?hdx9; (case hdh9 => with_reducible assumption); (case hde9 => exact rfl); (case hdx9 => (first | exact room_k (by decide) | exact dn_room (by with_reducible assumption) (by with_reducible assumption)))); (case hu => refine' room_u 3 ?huh9 ?hue9 ?hux9; (case huh9 => with_reducible assumption); (case hue9 => exact rfl); (case hux9 => (first | exact room_k (by decide) | exact dn_room (by with_reducible assumption) (by with_reducible assumption)))); intro _ _ _ _ _ _ _ _ _; (try dsimp only); k_sweep)) | (k_here; k_dflt (refine' Runs.usePk (pick_h _ ?hz ?C ?H ?l0 ?l1) (F := by k_asm) (B := by k_asm) (X := by k_asm) (T := by k_asm) (hk := by first | exact rfl | assumption) (N := ?N) (hd := ?hd) (hu := ?hu) (ret := ?_); (case N => first | k_asm | exact News.sw (by k_asm) | exact News.sw3 (by k_asm) | exact News.sw4 (by k_asm) | exact News.sw5 (by k_asm)); (case hz => k_all); (case C => exact Cells.mono (by assumption) (fun p hp => by k_mem)); (case H => first | assumption | exact HOk.dec (by assumption) (by assumption)); (case l0 => decide); (case l1 => decide); (case hd => refine' room_d ?hdh9 ?hde9 ?hdx9; (case hdh9 => with_reducible assumption); (case hde9 => exact rfl); (case hdx9 => (first | exact room_k (by decide) | exact dn_room (by with_reducible assumption) (by with_reducible assumption)))); (case hu => refine' room_u 1 ?huh9 ?hue9 ?hux9; (case huh9 => with_reducible assumption); (case hue9 => exact rfl); (case hux9 => (first | exact room_k (by decide) | exact dn_room (by with_reducible assumption) (by with_reducible assumption)))); intro _ _ _ _ _ _ _ _ _ _ _ _ _ _ _ _ _; (try dsimp only); k_sweep)) | (k_here; k_dflt (refine' Runs.useV (var_ok _ _ _ _ _ _ _ ?T9 ?hk9 ?i0 ?i1) (F := by k_asm) (B := by k_asm) (X := by k_asm) (T := by k_asm) (hk := by first | exact rfl | assumption) (N := ?N) (hd := ?hd) (hu := ?hu) (ret := ?_); (case N => k_asm); (case T9 => exact TypesO.mono (TypesO.mono (by assumption) (Base.s (by assumption))) (fun p hp => by k_mem)); (case hk9 => assumption); (case i0 => assumption); (case i1 => assumption); (case hd => refine' room_d ?hdh9 ?hde9 ?hdx9; (case hdh9 => with_reducible assumption); (case hde9 => exact rfl); (case hdx9 => (first | exact room_k (by decide) | exact dn_room (by with_reducible assumption) (by with_reducible assumption)))); (case hu => refine' room_u 6 ?huh9 ?hue9 ?hux9; (case huh9 => with_reducible assumption); (case hue9 => exact rfl); (case hux9 => (first | exact room_k (by decide) | exact dn_room (by with_reducible assumption) (by with_reducible assumption)))); intro _ _ _ _ _ _ _ _ _ _ _ _; (try dsimp only); k_sweep))) | ((with_reducible show wpAny _ _ (call (Value.builtin "list.append") _ _) _ _ _); first | (k_here; k_dflt (refine' row_append ?F ?N ?U ?z ?_; (case F => k_asm); (case N => k_asm); (case U => k_upd); (case z => exact Nat.le_trans (by with_reducible assumption) (by decide))); (intro _ _ _; k_sweep))) | ((with_reducible show wpAny _ _ (subscriptTail _ _ _ _) _ _ _); first | (k_here; (with_reducible refine' row_pick ?N ?ma ?I ?a ?b ?z ?_); k_dflt (skip; (case N => k_asm); (case ma => k_mem); (case I => first | exact .cons (.cons (.cons .nil)) | exact .cons (.cons (.cons (.cons .nil))) | exact .cons (.cons (.cons (.cons (.cons .nil)))) | exact .cons (.cons (.cons (.cons (.cons (.cons .nil)))))); (case a => assumption); (case b => assumption); (case z => decide)); intro _ _ _)) | ((with_reducible show wpAny _ _ (getAttr (Value.ref _) _ _) _ _ _); first | (k_here; k_dflt (refine' get_own ?k1 ?k2 ?k3 ?k4 ?k5 ?k6 ?k7 ?k8 ?k9 ?_; (case k1 => k_asm); (case k2 => k_asm); (case k3 => k_inst); (case k4 => k_is); (case k5 => k_is); (case k6 => k_is); (case k7 => k_is); (case k8 => assumption); (case k9 => first | rfl | assumption); k_whole))) | ((with_reducible show wpAny _ _ (isTrue (Expr.BoolOp BoolOp.Or _ _) _ _) _ _ _); first | (k_here; (with_reducible show wpAny _ _ (isTrue (Expr.BoolOp BoolOp.Or _ _) _ _) _ _ _); k_dflt (refine' or_cut ?mk ?h ?k1 ?k2; (case mk => assumption); (case h => ((with_reducible rename LeafMark _ _ => hmk); clear hmk; (repeat' (first | (k_unfold; (try dsimp only)) | (k_end; wrow_close) | ((with_reducible show wpAny _ _ (call (Value.ref _) _ _) _ _ _); first | (k_here; k_dflt (refine' Runs.useN (node4_ok _ _ _ _ _ _ _ _ _ ?ml ?vt) (F := by k_asm) (B := by k_asm) (X := by k_asm) (T := by k_asm) (hk := by first | exact rfl | assumption) (N := ?N) (hd := ?hd) (hu := ?hu) (ret := ?_); (case N => k_asm); (case ml => k_mem); (case vt => assumption); (case hd => refine' room_d ?hdh9 ?hde9 ?hdx9; (case hdh9 => with_reducible assumption); (case hde9 => exact rfl); (case hdx9 => exact room_k (by decide))); (case hu => refine' room_u 3 ?huh9 ?hue9 ?hux9; (case huh9 => with_reducible assumption); (case hue9 => exact rfl); (case hux9 => exact room_k (by decide))); intro _ _ _ _ _ _ _ _ _; (try dsimp only); k_sweep)) | (k_here; k_dflt (refine' Runs.useT (TOk.run ?P9 ?P8 ?hz ?C ?H ?S9 ?T9 ?hk9 ?D9) (F := by k_asm) (B := by k_asm) (X := by k_asm) (T := by k_asm) (hk := by first | exact rfl | assumption) (N := ?N) (hd := ?hd) (hu := ?hu) (ret := ?_); (case P9 => with_reducible assumption); (case P8 => exact dn_ne (by with_reducible assumption) (by with_reducible assumption)); (case N => first | k_asm | exact News.sw (by k_asm) | exact News.sw3 (by k_asm) | exact News.sw4 (by k_asm) | exact News.sw5 (by k_asm)); (case hz => k_all); (case C => exact Cells.mono (by assumption) (fun p hp => by k_mem)); (case T9 => assumption); (case S9 => exact Base.mono (by assumption) (fun p hp => by k_mem)); (case H => first | exact HOk.dec (by assumption) (by assumption) | assumption); (case hk9 => assumption); (case D9 => exact dn_d9 (by with_reducible assumption) (by with_reducible assumption)); (case hd => refine' room_d ?hdh9 ?hde9 ?hdx9; (case hdh9 => with_reducible assumption); (case hde9 => exact rfl); (case hdx9 => (first | exact room_k (by decide) | exact dn_room (by with_reducible assumption) (by with_reducible assumption)))); (case hu => refine' room_u _ ?huh9 ?hue9 ?hux9; (case huh9 => with_reducible assumption); (case hue9 => exact rfl); (case hux9 => (first | exact room_k (by decide) | exact dn_room (by with_reducible assumption) (by with_reducible assumption)))); intro _ _ _ _ _ _ _ _ _ _ _ _ _ _ _ _ _ _ _ _ _ _; (try dsimp only); k_sweep)) | (k_here; k_dflt (refine' Runs.useN (node4_ok _ _ _ _ _ _ _ [_, _] _ ?ml ?vt) (F := by k_asm) (B := by k_asm) (X := by k_asm) (T := by k_asm) (hk := by first | exact rfl | assumption) (N := ?N) (hd := ?hd) (hu := ?hu) (ret := ?_); (case N => k_asm); (case ml => k_mem); (case vt => assumption); (case hd => refine' room_d ?hdh9 ?hde9 ?hdx9; (case hdh9 => with_reducible assumption); (case hde9 => exact rfl); (case hdx9 => (first | exact room_k (by decide) | exact dn_room (by with_reducible assumption) (by with_reducible assumption)))); (case hu => refine' room_u 3 ?huh9 ?hue9 ?hux9; (case huh9 => with_reducible assumption); (case hue9 => exact rfl); (case hux9 => (first | exact room_k (by decide) | exact dn_room (by with_reducible assumption) (by with_reducible assumption)))); intro _ _ _ _ _ _ _ _ _; (try dsimp only); k_sweep)) | (k_here; k_dflt (refine' Runs.useN (node4_ok _ _ _ _ _ _ _ [_] _ ?ml ?vt) (F := by k_asm) (B := by k_asm) (X := by k_asm) (T := by k_asm) (hk := by first | exact rfl | assumption) (N := ?N) (hd := ?hd) (hu := ?hu) (ret := ?_); (case N => k_asm); (case ml => k_mem); (case vt => assumption); (case hd => refine' room_d ?hdh9 ?hde9 ?hdx9; (case hdh9 => with_reducible assumption); (case hde9 => exact rfl); (case hdx9 => (first | exact room_k (by decide) | exact dn_room (by with_reducible assumption) (by with_reducible assumption)))); (case hu => refine' room_u 3 ?huh9 ?hue9 ?hux9; (case huh9 => with_reducible assumption); (case hue9 => exact rfl); (case hux9 => (first | exact room_k (by decide) | exact dn_room (by with_reducible assumption) (by with_reducible assumption)))); intro _ _ _ _ _ _ _ _ _; (try dsimp only); k_sweep)) | (k_here; k_dflt (refine' Runs.useN (node5_ok _ _ _ _ _ _ _ _ [] _ ?ml ?vt ?vv) (F := by k_asm) (B := by k_asm) (X := by k_asm) (T := by k_asm) (hk := by first | exact rfl | assumption) (N := ?N) (hd := ?hd) (hu := ?hu) (ret := ?_); (case N => k_asm); (case ml => k_mem); (case vt => assumption); (case vv => first | rfl | assumption); (case hd => refine' room_d ?hdh9 ?hde9 ?hdx9; (case hdh9 => with_reducible assumption); (case hde9 => exact rfl); (case hdx9 => (first | exact room_k (by decide) | exact dn_room (by with_reducible assumption) (by with_reducible assumption)))); (case hu => refine' room_u 3 ?huh9 ?hue9 ?hux9; (case huh9 => with_reducible assumption); (case hue9 => exact rfl); (case hux9 => (first | exact room_k (by decide) | exact dn_room (by with_reducible assumption) (by with_reducible assumption)))); intro _ _ _ _ _ _ _ _ _; (try dsimp only); k_sweep)) | (k_here; k_dflt (refine' Runs.usePk (pick_h _ ?hz ?C ?H ?l0 ?l1) (F := by k_asm) (B := by k_asm) (X := by k_asm) (T := by k_asm) (hk := by first | exact rfl | assumption) (N := ?N) (hd := ?hd) (hu := ?hu) (ret := ?_); (case N => first | k_asm | exact News.sw (by k_asm) | exact News.sw3 (by k_asm) | exact News.sw4 (by k_asm) | exact News.sw5 (by k_asm)); (case hz => k_all); (case C => exact Cells.mono (by assumption) (fun p hp => by k_mem)); (case H => first | assumption | exact HOk.dec (by assumption) (by assumption)); (case l0 => decide); (case l1 => decide); (case hd => refine' room_d ?hdh9 ?hde9 ?hdx9; (case hdh9 => with_reducible assumption); (case hde9 => exact rfl); (case hdx9 => (first | exact room_k (by decide) | exact dn_room (by with_reducible assumption) (by with_reducible assumption)))); (case hu => refine' room_u 1 ?huh9 ?hue9 ?hux9; (case huh9 => with_reducible assumption); (case hue9 => exact rfl); (case hux9 => (first | exact room_k (by decide) | exact dn_room (by with_reducible assumption) (by with_reducible assumption)))); intro _ _ _ _ _ _ _ _ _ _ _ _ _ _ _ _ _; (try dsimp only); k_sweep)) | (k_here; k_dflt (refine' Runs.useV (var_ok _ _ _ _ _ _ _ ?T9 ?hk9 ?i0 ?i1) (F := by k_asm) (B := by k_asm) (X := by k_asm) (T := by k_asm) (hk := by first | exact rfl | assumption) (N := ?N) (hd := ?hd) (hu := ?hu) (ret := ?_); (case N => k_asm); (case T9 => exact TypesO.mono (TypesO.mono (by assumption) (Base.s (by assumption))) (fun p hp => by k_mem)); (case hk9 => assumption); (case i0 => assumption); (case i1 => assumption); (case hd => refine' room_d ?hdh9 ?hde9 ?hdx9; (case hdh9 => with_reducible assumption); (case hde9 => exact rfl); (case hdx9 => (first | exact room_k (by decide) | exact dn_room (by with_reducible assumption) (by with_reducible assumption)))); (case hu => refine' room_u 6 ?huh9 ?hue9 ?hux9; (case huh9 => with_reducible assumption); (case hue9 => exact rfl); (case hux9 => (first | exact room_k (by decide) | exact dn_room (by with_reducible assumption) (by with_reducible assumption)))); intro _ _ _ _ _ _ _ _ _ _ _ _; (try dsimp only); k_sweep))) | ((with_reducible show wpAny _ _ (call (Value.builtin "list.append") _ _) _ _ _); first | (k_here; k_dflt (refine' row_append ?F ?N ?U ?z ?_; (case F => k_asm); (case N => k_asm); (case U => k_upd); (case z => exact Nat.le_trans (by with_reducible assumption) (by decide))); (intro _ _ _; k_sweep))) | ((with_reducible show wpAny _ _ (subscriptTail _ _ _ _) _ _ _); first | (k_here; (with_reducible refine' row_pick ?N ?ma ?I ?a ?b ?z ?_); k_dflt (skip; (case N => k_asm); (case ma => k_mem); (case I => first | exact .cons (.cons (.cons .nil)) | exact .cons (.cons (.cons (.cons .nil))) | exact .cons (.cons (.cons (.cons (.cons .nil)))) | exact .cons (.cons (.cons (.cons (.cons (.cons .nil)))))); (case a => assumption); (case b => assumption); (case z => decide)); intro _ _ _)) | ((with_reducible show wpAny _ _ (getAttr (Value.ref _) _ _) _ _ _); first | (k_here; k_dflt (refine' get_own ?k1 ?k2 ?k3 ?k4 ?k5 ?k6 ?k7 ?k8 ?k9 ?_; (case k1 => k_asm); (case k2 => k_asm); (case k3 => k_inst); (case k4 => k_is); (case k5 => k_is); (case k6 => k_is); (case k7 => k_is); (case k8 => assumption); (case k9 => first | rfl | assumption); k_whole))) | ((with_reducible show wpAny _ _ (eval (Expr.Name _ _) _) _ _ _); first | (k_here; (with_reducible show wpAny _ _ (eval (Expr.Name (Str.ofString "pieces") _) _) _ _ _); k_dflt (refine' nameX_L ?F ?v ?_ ?a ?b; (case F => k_asm); (case a => rfl); (case b => rfl); (case v => ((try dsimp only); (repeat (refine Eq.trans (if_neg (by decide +kernel)) ?_)); with_reducible assumption)); k_whole))) | walk1 | (dsimp only; walk1) | (leave1; walk_say "STEP leave1"; try dsimp only) | fail "no step")); all_goals (first | (with_reducible assumption) | exact absurd (by with_reducible assumption : true = false) Bool.noConfusion))); (case' k1 => (intro tk'; (try dsimp only))); (case' k2 => (intro _ _ _; (try dsimp only)))))) | ((with_reducible show wpAny _ _ (eval (Expr.Name _ _) _) _ _ _); first | (k_here; (with_reducible show wpAny _ _ (eval (Expr.Name (Str.ofString "pieces") _) _) _ _ _); k_dflt (refine' nameX_L ?F ?v ?_ ?a ?b; (case F => k_asm); (case a => rfl); (case b => rfl); (case v => ((try dsimp only); (repeat (refine Eq.trans (if_neg (by decide +kernel)) ?_)); with_reducible assumption)); k_whole))) | walk1 | (dsimp only; walk1) | (leave1; walk_say "STEP leave1"; try dsimp only) | fail "no step")
      · rename_i r8 h8 t8 F8 tl8 Y8 O8 v8 N8 kF kN Tc kX
        obtain ⟨TT, hT, G⟩ := pcs_set (dn_ne hdp (by with_reducible assumption)) P1 (by rw [z5]; exact len3 m9) z6
        exact end_node (P := fun r _ h' tk' => Q r { s with heap := h', toks := tk' }) (kids := pv) hret kF tl kN s_un Hh Y8 hlk (fun p hp => Nat.ne_of_lt (ktn_ltOf l1.2.2.2.2 p hp)) (Fre.sub z1 s3) z2 O8 (fun L sub O => hT L _ _ sub O) G v8
  · rename_i Ta Ha Ya Za Da Ga va I' oI' C' oC' D1 m1' h1' tk1' E1 hC' off' ne' t9' hx' cE' r9 h9 t9 tl9 i9 j9 k9 n9' u91 u92 u93 u94 c9 T9 H9 Y9 Z9 D9 G9 v9 D' h'' tk'' o1 r8 h8 t8 F8 tl8 Y8 O8 v8 N8 kF kN Tc kX
    obtain ⟨o, ho, hb⟩ := bin_of (sub_all (by with_reducible assumption) (by decide +kernel))
    exact end_node (P := fun r _ h' tk' => Q r { s with heap := h', toks := tk' }) (kids := [_, _]) hret kF _ kN s_bin H9 Y8 o1.1 (fun p hp => off1_mem o1.2 p (List.mem_append_right _ (List.mem_append_right _ (s4 p hp)))) (fre_two (Fre.sub Ya s7) (Fre.sub Y9 (fun p hp => .tail _ (.tail _ (.tail _ (List.mem_append_right _ (s4 p hp))))))) (all_app Z9 Za) O8 (fun L sub O => .bin O ho (Da.mono (sub_a sub)) (D9.mono (sub_b sub))) (tf_bin (dn_ne hdp (by with_reducible assumption)) hb ho Ga G9) v8
  · rename_i tl9 x9 Y9 O9 c9 G9 v9 N9 kF kN Tc kX
    exact end_var (P := fun r _ h' tk' => Q r { s with heap := h', toks := tk' }) hret kF kN s3 (by assumption) Y9 O9 c9 G9 v9
  · rename_i tl9 x9 Y9 O9 c9 G9 v9 N9 kF kN Tc kX
    exact end_var (P := fun r _ h' tk' => Q r { s with heap := h', toks := tk' }) hret kF kN s3 (by assumption) Y9 O9 c9 G9 v9
  · rename_i tl9 x9 Y9 O9 c9 G9 v9 N9 kF kN Tc kX
    exact end_var (P := fun r _ h' tk' => Q r { s with heap := h', toks := tk' }) hret kF kN s3 (by assumption) Y9 O9 c9 G9 v9
  · rename_i tl9 x9 Y9 O9 c9 G9 v9 N9 kF kN Tc kX
    exact end_var (P := fun r _ h' tk' => Q r { s with heap := h', toks := tk' }) hret kF kN s3 (by assumption) Y9 O9 c9 G9 v9
end
end T_G5s
section T_G6
theorem tree_step (w : World) (d : Nat) (IH : d ≠ 0 → TOk w (d - 1)) : TOk w d := by
  intro bz fz ha cells cv ty kk i j k n deep t1 t2 t3 t4 tk td c hz C Bs Ty V H e
  rcases V with rfl | rfl | rfl
  · exact tree_i w d IH bz fz ha cells cv ty i j k n deep t1 t2 t3 t4 tk td c hz C Bs Ty H e
  · exact tree_b w d IH bz fz ha cells cv ty i j k n deep t1 t2 t3 t4 tk td c hz C Bs Ty H e
  · exact tree_s w d IH bz fz ha cells cv ty i j k n deep t1 t2 t3 t4 tk td c hz C Bs Ty H e
theorem tree_ok (w : World) : ∀ d, TOk w d
  | 0 => tree_step w 0 fun h => absurd rfl h
  | d + 1 => tree_step w (d + 1) fun _ => tree_ok w d
#print axioms tree_ok
end T_G6
end G_G5i
section T_W1
noncomputable def aln (c : Nat) : Bool := Unicode.isAlnum c
noncomputable def twoL : List (List Nat) := [[60, 61], [62, 61], [46, 46]]
/-- how many signs the scanner's next step takes -/
noncomputable def lexLen (c : Nat) (b : List Nat) : Nat := if aln c then 1 + (b.takeWhile aln).length else if ((c :: b).take 2) ∈ twoL then 2 else 1
noncomputable def mkS (l : List Nat) : Str := ⟨l.toArray⟩
inductive Sc : List Nat → List Str → Prop
  | nil : Sc [] []
  | sp {b : List Nat} {ws : List Str} : Sc b ws → Sc (32 :: b) ws
  | tok {c : Nat} {b : List Nat} {ws : List Str} : c ≠ 32 → Sc ((c :: b).drop (lexLen c b)) ws → Sc (c :: b) (mkS ((c :: b).take (lexLen c b)) :: ws)
theorem lexLen_pos (c : Nat) (b : List Nat) : 1 ≤ lexLen c b := by
  unfold lexLen
  by_cases h : aln c = true
  · rw [if_pos h]; exact Nat.le_add_right _ _
  · rw [if_neg h]
    by_cases k : (c :: b).take 2 ∈ twoL
    · rw [if_pos k]; decide
    · rw [if_neg k]; decide
theorem two_len {c : Nat} {b : List Nat} (h : (c :: b).take 2 ∈ twoL) : 1 ≤ b.length := by
  cases b with
  | nil => exact absurd ((by decide : ∀ l ∈ twoL, l.length = 2) _ h) (by show ¬ 1 = 2; decide)
  | cons d r => exact Nat.le_add_left _ _
theorem takeWhile_len {p : Nat → Bool} (b : List Nat) : (b.takeWhile p).length ≤ b.length := (List.takeWhile_prefix p).length_le
theorem lexLen_le (c : Nat) (b : List Nat) : lexLen c b ≤ b.length + 1 := by
  unfold lexLen
  by_cases h : aln c = true
  · rw [if_pos h, Nat.add_comm]; exact Nat.succ_le_succ (takeWhile_len b)
  · rw [if_neg h]
    by_cases k : (c :: b).take 2 ∈ twoL
    · rw [if_pos k]; exact Nat.succ_le_succ (two_len k)
    · rw [if_neg k]; exact Nat.le_add_left _ _
theorem not_two {c : Nat} {b : List Nat} (h : c ≠ 60 ∧ c ≠ 62 ∧ c ≠ 46) : (c :: b).take 2 ∉ twoL := fun m => by
  have q : c ∈ [60, 62, 46] := by
    have q := List.mem_map_of_mem (f := fun l : List Nat => l.headD 60) m
    exact q
  rcases List.mem_cons.mp q with e | q
  · exact h.1 e
  · rcases List.mem_cons.mp q with e | q
    · exact h.2.1 e
    · exact h.2.2 (List.mem_singleton.mp q)
theorem lex_sp (b : List Nat) : lexLen 32 b = 1 := by
  unfold lexLen
  rw [if_neg (by decide +kernel), if_neg (not_two (by decide))]
noncomputable def puncts : List Nat := [40, 41, 123, 125, 44, 45, 126]
theorem punct_al : ∀ c ∈ puncts, aln c = false ∧ c ≠ 32 ∧ c ≠ 60 ∧ c ≠ 62 ∧ c ≠ 46 := by decide +kernel
theorem lex_punct {c : Nat} (h : c ∈ puncts) (b : List Nat) : lexLen c b = 1 := by
  obtain ⟨h1, _, h2⟩ := punct_al c h
  unfold lexLen
  rw [h1, if_neg (by decide), if_neg (not_two h2)]
theorem sc_punct {c : Nat} (h : c ∈ puncts) {b : List Nat} {ws : List Str} (S : Sc b ws) : Sc (c :: b) (mkS [c] :: ws) := by
  have q := Sc.tok (c := c) (b := b) (ws := ws) (punct_al c h).2.1 (by rw [lex_punct h]; exact S)
  rw [lex_punct h] at q; exact q
theorem sc_dots {b : List Nat} {ws : List Str} (S : Sc b ws) : Sc (46 :: 46 :: b) (mkS [46, 46] :: ws) := by
  have e : lexLen 46 (46 :: b) = 2 := by
    unfold lexLen
    rw [if_neg (by decide +kernel), if_pos (.tail _ (.tail _ (.head _)))]
  have q := Sc.tok (c := 46) (b := 46 :: b) (ws := ws) (by decide) (by rw [e]; exact S)
  rw [e] at q; exact q
noncomputable def Brk (b : List Nat) : Prop := ∀ c r, b = c :: r → aln c = false
theorem takeWhile_all {p : Nat → Bool} {u r : List Nat} (hu : ∀ c ∈ u, p c = true) (h : ∀ c s, r = c :: s → p c = false) : (u ++ r).takeWhile p = u := by
  rw [List.takeWhile_append_of_pos hu]
  cases r with
  | nil => exact List.append_nil u
  | cons c s => rw [List.takeWhile_cons, h c s rfl]; exact List.append_nil u
theorem not_sp {c : Nat} (h : aln c = true) : c ≠ 32 := by
  rintro rfl
  exact absurd h (by decide +kernel)
theorem sc_word {c : Nat} {u b : List Nat} {ws : List Str} (hu : ∀ d ∈ c :: u, aln d = true) (hb : Brk b) (S : Sc b ws) : Sc ((c :: u) ++ b) (mkS (c :: u) :: ws) := by
  have e : lexLen c (u ++ b) = u.length + 1 := by
    unfold lexLen
    rw [if_pos (hu c (.head _)), takeWhile_all (fun d hd => hu d (.tail _ hd)) hb, Nat.add_comm]
  have e1 : ((c :: u) ++ b).drop (u.length + 1) = b := List.drop_left
  have q := Sc.tok (c := c) (b := u ++ b) (ws := ws) (not_sp (hu c (.head _))) (by rw [e]; exact e1.symm ▸ S)
  rw [e, show (c :: (u ++ b)).take (u.length + 1) = c :: u from List.take_left (l₁ := c :: u)] at q
  exact q
/-- an operator's word, told by its kind -/
noncomputable def opKind (l : List Nat) : Bool := match l with
  | [] => false
  | c :: y => if aln c then y.all aln else (c != 32) && ((y == [] && !([c, 32] ∈ twoL)) || ((c :: y) ∈ twoL))
theorem op_kinds : ∀ p ∈ binTab, opKind p.2.cps.toList = true := by decide +kernel
theorem sc_op {l b : List Nat} {ws : List Str} (h : opKind l = true) (S : Sc b ws) : Sc (l ++ 32 :: b) (mkS l :: ws) := by
  cases l with
  | nil => cases h
  | cons c y =>
    have S' : Sc (32 :: b) ws := .sp S
    have h9 : (if aln c then y.all aln else (c != 32) && ((y == [] && !([c, 32] ∈ twoL)) || ((c :: y) ∈ twoL))) = true := h
    clear h
    by_cases hc : aln c = true
    · rw [if_pos hc] at h9
      exact sc_word (List.forall_mem_cons.mpr ⟨hc, List.all_eq_true.mp h9⟩) (fun d r e => by cases e; decide +kernel) S'
    · rw [if_neg hc] at h9
      obtain ⟨h32, h8⟩ := (Bool.and_eq_true _ _).mp h9
      have e : lexLen c (y ++ 32 :: b) = y.length + 1 := by
        unfold lexLen
        rw [if_neg hc]
        rcases (Bool.or_eq_true _ _).mp h8 with h7 | h7
        · obtain ⟨h6, h7⟩ := (Bool.and_eq_true _ _).mp h7
          rw [eq_of_beq h6]; exact if_neg (of_decide_eq_false ((Bool.not_eq_true' _).mp h7))
        · have h7 := of_decide_eq_true h7
          obtain ⟨d, rfl⟩ := List.length_eq_one_iff.mp (Nat.succ.inj ((by decide : ∀ l ∈ twoL, l.length = 2) _ h7))
          exact if_pos h7
      have e1 : ((c :: y) ++ 32 :: b).drop (y.length + 1) = 32 :: b := List.drop_left
      have q := Sc.tok (c := c) (b := y ++ 32 :: b) (ws := ws) (bne_iff_ne.mp h32) (by rw [e]; exact e1.symm ▸ S')
      rw [e, show (c :: (y ++ 32 :: b)).take (y.length + 1) = c :: y from List.take_left (l₁ := c :: y)] at q
      exact q
end T_W1
section T_W2
theorem cps_app (a b : Str) : (a ++ b).cps.toList = a.cps.toList ++ b.cps.toList := Array.toList_append
theorem mkS_eq (x : Str) : mkS x.cps.toList = x := rfl
theorem lits : (S "(").cps.toList = [40] ∧ (S ")").cps.toList = [41] ∧ (S " ").cps.toList = [32] ∧ (S "-").cps.toList = [45] ∧ (S "~").cps.toList = [126] ∧ (S "{").cps.toList = [123] ∧ (S "}").cps.toList = [125] ∧ (S ", ").cps.toList = [44, 32] ∧ (S "..").cps.toList = [46, 46] ∧ (S "").cps.toList = [] := by decide +kernel
theorem mks : mkS [40] = S "(" ∧ mkS [41] = S ")" ∧ mkS [45] = S "-" ∧ mkS [126] = S "~" ∧ mkS [123] = S "{" ∧ mkS [125] = S "}" ∧ mkS [44] = S "," ∧ mkS [46, 46] = S ".." := by decide +kernel
theorem mk_op {o : Str} : mkS o.cps.toList = o := rfl
theorem brk_nil : Brk [] := fun _ _ h => nomatch h
theorem brk_c {c : Nat} {b : List Nat} (h : aln c = false) : Brk (c :: b) := fun d r e => by cases e; exact h
theorem al_p : aln 32 = false ∧ aln 41 = false ∧ aln 125 = false ∧ aln 44 = false ∧ aln 46 = false := by decide +kernel
theorem sc_lp {b : List Nat} {ws : List Str} (h : Sc b ws) : Sc (40 :: b) (S "(" :: ws) := by rw [← mks.1]; exact sc_punct (by decide) h
theorem sc_rp {b : List Nat} {ws : List Str} (h : Sc b ws) : Sc (41 :: b) (S ")" :: ws) := by rw [← mks.2.1]; exact sc_punct (by decide) h
theorem sc_mn {b : List Nat} {ws : List Str} (h : Sc b ws) : Sc (45 :: b) (S "-" :: ws) := by rw [← mks.2.2.1]; exact sc_punct (by decide) h
theorem sc_nt {b : List Nat} {ws : List Str} (h : Sc b ws) : Sc (126 :: b) (S "~" :: ws) := by rw [← mks.2.2.2.1]; exact sc_punct (by decide) h
theorem sc_lb {b : List Nat} {ws : List Str} (h : Sc b ws) : Sc (123 :: b) (S "{" :: ws) := by rw [← mks.2.2.2.2.1]; exact sc_punct (by decide) h
theorem sc_rb {b : List Nat} {ws : List Str} (h : Sc b ws) : Sc (125 :: b) (S "}" :: ws) := by rw [← mks.2.2.2.2.2.1]; exact sc_punct (by decide) h
theorem sc_cm {b : List Nat} {ws : List Str} (h : Sc b ws) : Sc (44 :: b) (S "," :: ws) := by rw [← mks.2.2.2.2.2.2.1]; exact sc_punct (by decide) h
theorem sc_dt {b : List Nat} {ws : List Str} (h : Sc b ws) : Sc (46 :: 46 :: b) (S ".." :: ws) := by rw [← mks.2.2.2.2.2.2.2]; exact sc_dots h
noncomputable def SP (T : Tm) (l : Nat) : Prop := ∀ b ws, Brk b → Sc b ws → Sc ((T.tx l).cps.toList ++ b) (T.wd l ++ ws)
theorem sp_par {x : Str} {w : List Str} (c : Bool) (h : ∀ b ws, Brk b → Sc b ws → Sc (x.cps.toList ++ b) (w ++ ws)) (b : List Nat) (ws : List Str) (hb : Brk b) (s : Sc b ws) : Sc ((parS c x).cps.toList ++ b) (par c w ++ ws) := by
  cases c with
  | false => exact h b ws hb s
  | true =>
    have q := sc_lp (h (41 :: b) (S ")" :: ws) (brk_c al_p.2.1) (sc_rp s))
    show Sc ((S "(" ++ x ++ S ")").cps.toList ++ b) (S "(" :: ((w ++ [S ")"]) ++ ws))
    rw [cps_app, cps_app, lits.1, lits.2.1, List.append_assoc, List.append_assoc, List.append_assoc]
    exact q
theorem scans : ∀ (T : Tm) (l : Nat), T.Good → SP T l := by
  intro T
  induction T with
  | leaf x =>
    intro l g b ws hb s
    have al : ∀ c ∈ x.cps.toList, aln c = true := fun c hc => Array.all_eq_true_iff_forall_mem.mp g.2.2.1 c (Array.mem_def.mpr hc)
    show Sc (x.cps.toList ++ b) (x :: ws)
    cases h : x.cps.toList with
    | nil =>
      have e : x.cps.size = 0 := by rw [← Array.length_toList, h]; rfl
      exact absurd g.1 (by show ¬ 1 ≤ x.cps.size; rw [e]; decide)
    | cons c u =>
      have q := sc_word (c := c) (u := u) (b := b) (ws := ws) (by rw [← h]; exact al) hb s
      rw [← h] at q ⊢
      exact q
  | neg a ih =>
    intro l g
    refine sp_par _ fun b ws hb s => ?_
    rw [cps_app, lits.2.2.2.1]
    exact sc_mn (ih 3 g b ws hb s)
  | nt a ih =>
    intro l g b ws hb s
    show Sc ((S "~" ++ a.tx 4).cps.toList ++ b) (S "~" :: a.wd 4 ++ ws)
    rw [cps_app, lits.2.2.2.2.1]
    exact sc_nt (ih 4 g b ws hb s)
  | bin o a b' i1 i2 =>
    intro l g
    obtain ⟨⟨op, ho⟩, ga, gb⟩ := g
    refine sp_par _ fun b ws hb s => ?_
    have q1 := i1 (loL o) ga _ _ (brk_c al_p.1) (.sp (sc_op (op_kinds _ ho) (i2 (hiL o) gb b ws hb s)))
    rw [cps_app, cps_app, cps_app, cps_app, lits.2.2.1, List.append_assoc, List.append_assoc, List.append_assoc, List.append_assoc, List.append_assoc]
    exact q1
  | set0 =>
    intro l g b ws hb s
    show Sc ((S "{" ++ S "" ++ S "}").cps.toList ++ b) (S "{" :: S "}" :: ws)
    rw [cps_app, cps_app, lits.2.2.2.2.2.1, lits.2.2.2.2.2.2.1, lits.2.2.2.2.2.2.2.2.2]
    exact sc_lb (sc_rb s)
  | set1 p ih =>
    intro l g b ws hb s
    show Sc ((S "{" ++ p.tx 0 ++ S "}").cps.toList ++ b) (S "{" :: ((p.wd 0 ++ [S "}"]) ++ ws))
    rw [cps_app, cps_app, lits.2.2.2.2.2.1, lits.2.2.2.2.2.2.1, List.append_assoc, List.append_assoc, List.append_assoc]
    exact sc_lb (ih 0 g _ _ (brk_c al_p.2.2.1) (sc_rb s))
  | set2 p r i1 i2 =>
    intro l g b ws hb s
    show Sc ((S "{" ++ (p.tx 0 ++ S ", " ++ r.tx 0) ++ S "}").cps.toList ++ b) (S "{" :: ((p.wd 0 ++ S "," :: (r.wd 0 ++ [S "}"])) ++ ws))
    rw [cps_app, cps_app, cps_app, cps_app, lits.2.2.2.2.2.1, lits.2.2.2.2.2.2.1, lits.2.2.2.2.2.2.2.1, List.append_assoc, List.append_assoc, List.append_assoc, List.append_assoc, List.append_assoc, show (S "," :: (r.wd 0 ++ [S "}"]) ++ ws) = S "," :: (r.wd 0 ++ (S "}" :: ws)) from congrArg (S "," :: ·) (List.append_assoc _ _ _)]
    exact sc_lb (i1 0 g.1 _ _ (brk_c al_p.2.2.2.1) (sc_cm (.sp (i2 0 g.2 _ _ (brk_c al_p.2.2.1) (sc_rb s)))))
  | one a ih => exact fun l g => ih 1 g
  | rng a b' i1 i2 =>
    intro l g b ws hb s
    show Sc ((a.tx 1 ++ S ".." ++ b'.tx 1).cps.toList ++ b) ((a.wd 1 ++ S ".." :: b'.wd 1) ++ ws)
    rw [cps_app, cps_app, lits.2.2.2.2.2.2.2.2.1, List.append_assoc, List.append_assoc, List.append_assoc]
    exact i1 1 g.1 _ _ (brk_c al_p.2.2.2.2) (sc_dt (i2 1 g.2 b ws hb s))
theorem scan_all (T : Tm) (l : Nat) (g : T.Good) : Sc (T.tx l).cps.toList (T.wd l) := by
  have q := scans T l g [] [] brk_nil .nil
  rw [List.append_nil, List.append_nil] at q; exact q
end T_W2
section T_W3
/-- a list of words in the order in which they were put -/
inductive Fwd : List Value → List Str → Prop
  | nil : Fwd [] []
  | snoc {vs : List Value} {ws : List Str} {x : Str} {t : Tok} : Fwd vs ws → PyData.strOk x = true → Fwd (vs ++ [.str x t]) (ws ++ [x])
theorem rowIs_front {x : Str} {t : Tok} (ok : PyData.strOk x = true) {vs : List Value} {ws : List Str} (R : RowIs vs ws) : RowIs (.str x t :: vs) (ws ++ [x]) := by
  induction R with
  | nil => exact RowIs.cons (vs := []) ok .nil
  | cons oky _ ih => exact RowIs.cons (vs := _ :: _) oky ih
theorem Fwd.rev {vs : List Value} {ws : List Str} (h : Fwd vs ws) : RowIs vs.reverse ws := by
  induction h with
  | nil => exact .nil
  | snoc _ ok ih => rw [List.reverse_append]; exact rowIs_front ok ih
theorem Fwd.len {vs : List Value} {ws : List Str} (h : Fwd vs ws) : vs.length = ws.length := by
  induction h with
  | nil => rfl
  | snoc _ _ ih => rw [List.length_append, List.length_append, ih]; rfl
theorem strOk_sub {x y : Str} (h : PyData.strOk x = true) (s : ∀ c ∈ y.cps.toList, c ∈ x.cps.toList) : PyData.strOk y = true := by
  unfold PyData.strOk at h ⊢
  rw [Array.all_eq_true_iff_forall_mem] at h ⊢
  exact fun c hc => h c (Array.mem_def.mpr (s c (Array.mem_def.mp hc)))
theorem slice_ok {x : Str} (h : PyData.strOk x = true) (l u : Option Int) : PyData.strOk (Txt.slice x l u) = true := by
  unfold Txt.slice
  split
  · exact h
  · refine strOk_sub h fun c hc => ?_
    simp only [List.mem_filterMap] at hc
    obtain ⟨i, _, e⟩ := hc
    rw [Array.getElem?_eq_some_iff] at e
    obtain ⟨hi, rfl⟩ := e
    exact Array.mem_def.mp (Array.getElem_mem hi)
section
variable {x : Str} {a b : List Nat} {c : Nat} {p : Int}
theorem len_of (h : x.cps.toList = a ++ b) : x.length = a.length + b.length := by
  show x.cps.size = _
  rw [← Array.length_toList, h, List.length_append]
theorem slice_at (h : x.cps.toList = a ++ b) (hp : p = (a.length : Int)) (k : Nat) : Txt.slice x (some p) (some (p + (k : Int))) = mkS (b.take k) := by
  have hl := len_of h
  have go : ∀ j : Int, p ≤ j → j ≤ x.length → Txt.slice x (some p) (some j) = mkS (b.take (j - p).toNat) := fun j h1 h2 => by
    rw [eq_of_beq (slice_closesL (x := x) (i := p) (j := j) (by lia) h1 h2), h, hp]
    show mkS _ = _
    rw [show ((a.length : Int)).toNat = a.length from rfl, List.drop_left]
  by_cases hk : k ≤ b.length
  · rw [go _ (by lia) (by lia)]
    rw [show (p + (k : Int) - p).toNat = k by lia]
  · have e : Txt.slice x (some p) (some (p + (k : Int))) = Txt.slice x (some p) (some (x.length : Int)) := by
      have e2 : PySem.Builtin.Str.strSliceIndices (some p) (some (p + (k : Int))) 1 x.length = PySem.Builtin.Str.strSliceIndices (some p) (some (x.length : Int)) 1 x.length := by
        unfold PySem.Builtin.Str.strSliceIndices
        simp only [show ((1 : Int) > 0) by decide, if_true]
        rw [if_neg (show ¬ (p + (k : Int) < 0) by lia), if_neg (show ¬ ((x.length : Int) < 0) by lia)]
        congr 1
        lia
      unfold Txt.slice
      rw [e2]
    rw [e, go _ (by lia) (by lia), List.take_of_length_le (show b.length ≤ ((x.length : Int) - p).toNat by lia), List.take_of_length_le (show b.length ≤ k by lia)]
theorem item_of (h : x.cps.toList = a ++ c :: b) (hp : p = (a.length : Int)) : Txt.item x p = mkS [c] := by
  have hl := len_of h
  rw [PyProof.Rows.item_meets (n := c) (by rw [hp]; exact Int.natCast_nonneg _) (by
    rw [hp, show ((a.length : Int)).toNat = a.length from rfl, ← Array.getElem?_toList, h]; exact List.getElem?_append_right (Nat.le_refl _) |>.trans (by rw [Nat.sub_self]; rfl))]
  rfl
theorem aln_item (h : x.cps.toList = a ++ c :: b) (hp : p = (a.length : Int)) : Txt.isalnum (Txt.item x p) = aln c := by
  rw [item_of h hp]
  show ((1 : Nat) > 0 && _) = _
  simp [mkS, aln]
theorem two_any (h : x.cps.toList = a ++ c :: b) (hp : p = (a.length : Int)) : ([S "<=", S ">=", S ".."].any fun y => y == Txt.slice x (some p) (some (p + 2))) = decide ((c :: b).take 2 ∈ twoL) := by
  have e := slice_at h hp 2
  rw [show ((2 : Nat) : Int) = 2 from rfl] at e
  rw [e, any_mem]
  have e1 : [S "<=", S ">=", S ".."] = twoL.map mkS := by decide +kernel
  rw [e1]
  refine decide_eq_decide.mpr ⟨fun m => ?_, List.mem_map_of_mem⟩
  obtain ⟨l, m, q⟩ := List.mem_map.mp m
  have q2 : l = (c :: b).take 2 := congrArg (fun s : Str => s.cps.toList) q
  exact q2 ▸ m
theorem sp_item (h : x.cps.toList = a ++ c :: b) (hp : p = (a.length : Int)) : (Txt.item x p != S " ") = (c != 32) := by
  rw [item_of h hp, show S " " = mkS [32] by decide +kernel]
  by_cases hc : c = 32
  · rw [hc]; decide +kernel
  · have : mkS [c] ≠ mkS [32] := fun e => hc (List.cons.inj (congrArg (fun s : Str => s.cps.toList) e)).1
    rw [bne_iff_ne.mpr this, bne_iff_ne.mpr hc]
end
noncomputable def runL (c : Nat) (b : List Nat) : Nat := if aln c then 1 + (b.takeWhile aln).length else 1
inductive WJ (x : Str) (row : Addr) (news : Led) (ws : List Str) (n : Nat) (m₁ : Str → Option Value) (news₁ : Led) : Prop
  | mk (vs : List Value) (k : Nat) (dn rest : List Str) (a b : List Nat) (p : Int) (t tx : Tok) : n = b.length → m₁ (S "source") = some (.str x tx) → m₁ (S "row") = some (.ref row) → m₁ (S "at") = some (.int p t) → news₁ = (row, W.listOf (List.toArray vs) k) :: news →
    x.cps.toList = a ++ b → p = (a.length : Int) → Fwd vs dn → Sc b rest → ws = dn ++ rest → WJ x row news ws n m₁ news₁
inductive WI (x : Str) (row : Addr) (a b : List Nat) (c : Nat) (p : Int) (led : Led) (n : Nat) (m₁ : Str → Option Value) (news₁ : Led) : Prop
  | mk (i : Nat) (q : Int) (t t2 tx : Tok) : n + i = b.length → m₁ (S "source") = some (.str x tx) → m₁ (S "row") = some (.ref row) → m₁ (S "at") = some (.int p t) → m₁ (S "last") = some (.int q t2) → news₁ = led →
    q = p + 1 + (i : Int) → i ≤ (b.takeWhile aln).length → (i ≠ 0 → aln c = true) → WI x row a b c p led n m₁ news₁
theorem test_cut {M : Model} {A : Around} {E : Value → Shared → Prop} {s : Shared} {e : Expr} {env : Env} {wh : Sem Value} {Q : Bool → Shared → Prop} (P P' : Prop)
    (h : wpAny M A (isTrue e env wh) (fun b s' => ((b = true → P) ∧ (b = false → P')) ∧ ∃ tk, s' = { s with toks := tk }) E s) (k1 : P → ∀ tk, Q true { s with toks := tk }) (k2 : P' → ∀ tk, Q false { s with toks := tk }) : wpAny M A (isTrue e env wh) Q E s :=
  wpAny_mono h (by
    rintro b s' ⟨⟨hp, hp'⟩, tk, rfl⟩
    cases b with
    | true => exact k1 (hp rfl) tk
    | false => exact k2 (hp' rfl) tk) (fun _ _ h => h)
theorem tw_step {f : Nat → Bool} {b : List Nat} : ∀ {i : Nat}, i ≤ (b.takeWhile f).length →
    (∀ d r, b.drop i = d :: r → (f d = true → i + 1 ≤ (b.takeWhile f).length) ∧ (f d = false → i = (b.takeWhile f).length)) ∧ (b.drop i = [] → i = (b.takeWhile f).length) := by
  induction b with
  | nil =>
    intro i h
    have h0 : i = 0 := Nat.le_zero.mp h
    subst h0
    exact ⟨fun d r e => (nomatch e), fun _ => rfl⟩
  | cons c b ih =>
    intro i h
    cases hf : f c with
    | false =>
      have e0 : (c :: b).takeWhile f = [] := by rw [List.takeWhile_cons, hf]; rfl
      rw [e0] at h ⊢
      have h0 : i = 0 := Nat.le_zero.mp h
      subst h0
      exact ⟨fun d r e => ⟨fun hd => absurd hd (by rw [← (List.cons.inj e).1, hf]; decide), fun _ => rfl⟩, fun e => (nomatch e)⟩
    | true =>
      have e0 : (c :: b).takeWhile f = c :: b.takeWhile f := by rw [List.takeWhile_cons, hf]; rfl
      rw [e0] at h ⊢
      cases i with
      | zero => exact ⟨fun d r e => ⟨fun _ => Nat.le_add_left _ _, fun hd => by rw [← (List.cons.inj e).1, hf] at hd; cases hd⟩, fun e => (nomatch e)⟩
      | succ i =>
        have q := ih (i := i) (Nat.le_of_succ_le_succ h)
        exact ⟨fun d r e => ⟨fun hd => Nat.succ_le_succ ((q.1 d r e).1 hd), fun hd => congrArg (· + 1) ((q.1 d r e).2 hd)⟩, fun e => congrArg (· + 1) (q.2 e)⟩
structure Yes (c : Nat) (b : List Nat) (i : Nat) : Prop where
  al : aln c = true
  lt : i + 1 ≤ (b.takeWhile aln).length
structure No (c : Nat) (b : List Nat) (i : Nat) : Prop where
  e : i + 1 = runL c b
section
variable {x : Str} {a b : List Nat} {c i : Nat} {p q : Int}
theorem at_q (e : x.cps.toList = a ++ c :: b) (hi : i ≤ b.length) (hp : p = (a.length : Int)) (hq : q = p + 1 + (i : Int)) : x.cps.toList = (a ++ c :: b.take i) ++ b.drop i ∧ q = ((a ++ c :: b.take i).length : Int) := by
  refine ⟨?_, ?_⟩
  · rw [e, List.append_assoc, List.cons_append, List.take_append_drop]
  · rw [List.length_append, List.length_cons, List.length_take, Nat.min_eq_left hi]; lia
theorem q_lt (e : x.cps.toList = a ++ c :: b) (hp : p = (a.length : Int)) (hq : q = p + 1 + (i : Int)) : (q < (x.length : Int)) = (i < b.length) := by
  have hl := len_of e
  rw [List.length_cons] at hl
  rw [hl, hq, hp]
  exact propext ⟨fun h => by lia, fun h => by lia⟩
theorem q_dr (e : x.cps.toList = a ++ c :: b) (hp : p = (a.length : Int)) (hq : q = p + 1 + (i : Int)) (h2 : q < (x.length : Int)) (hi : i ≤ b.length) : ∃ d r, b.drop i = d :: r ∧ Txt.isalnum (Txt.item x q) = aln d := by
  rw [q_lt e hp hq] at h2
  obtain ⟨e2, hq2⟩ := at_q e hi hp hq
  cases hd : b.drop i with
  | nil => exact absurd (List.drop_eq_nil_iff.mp hd) (Nat.not_le_of_lt h2)
  | cons d r => rw [hd] at e2; exact ⟨d, r, rfl, aln_item e2 hq2⟩
theorem no1 (e : x.cps.toList = a ++ c :: b) (hp : p = (a.length : Int)) (hal : i ≠ 0 → aln c = true) (h : Txt.isalnum (Txt.item x p) = false) : No c b i := by
  rw [aln_item e hp] at h
  have h0 : i = 0 := Decidable.byContradiction fun n => by rw [hal n] at h; cases h
  subst h0
  exact ⟨by unfold runL; rw [h]; rfl⟩
theorem no2 (e : x.cps.toList = a ++ c :: b) (hp : p = (a.length : Int)) (hq : q = p + 1 + (i : Int)) (hi : i ≤ (b.takeWhile aln).length) (h : Txt.isalnum (Txt.item x p) = true) (h2 : ¬ q < (x.length : Int)) : No c b i := by
  rw [aln_item e hp] at h
  rw [q_lt e hp hq] at h2
  have hb := takeWhile_len (p := aln) b
  exact ⟨by unfold runL; rw [if_pos h, Nat.add_comm 1, Nat.le_antisymm hi (Nat.le_trans hb (Nat.le_of_not_lt h2))]⟩
theorem no3 (e : x.cps.toList = a ++ c :: b) (hp : p = (a.length : Int)) (hq : q = p + 1 + (i : Int)) (hi : i ≤ (b.takeWhile aln).length) (h : Txt.isalnum (Txt.item x p) = true) (h2 : q < (x.length : Int)) (h3 : Txt.isalnum (Txt.item x q) = false) : No c b i := by
  rw [aln_item e hp] at h
  obtain ⟨d, r, hd, e2⟩ := q_dr e hp hq h2 (Nat.le_trans hi (takeWhile_len b))
  rw [e2] at h3
  exact ⟨by unfold runL; rw [if_pos h, Nat.add_comm 1, ((tw_step hi).1 d r hd).2 h3]⟩
theorem yes1 (e : x.cps.toList = a ++ c :: b) (hp : p = (a.length : Int)) (hq : q = p + 1 + (i : Int)) (hi : i ≤ (b.takeWhile aln).length) (h : Txt.isalnum (Txt.item x p) = true) (h2 : q < (x.length : Int)) (h3 : Txt.isalnum (Txt.item x q) = true) : Yes c b i := by
  rw [aln_item e hp] at h
  obtain ⟨d, r, hd, e2⟩ := q_dr e hp hq h2 (Nat.le_trans hi (takeWhile_len b))
  rw [e2] at h3
  exact ⟨h, ((tw_step hi).1 d r hd).1 h3⟩
theorem lex_two (e : x.cps.toList = a ++ c :: b) (hp : p = (a.length : Int)) (h : ([S "<=", S ">=", S ".."].any fun y => y == Txt.slice x (some p) (some (p + 2))) = true) : lexLen c b = 2 := by
  rw [two_any e hp] at h
  have h := of_decide_eq_true h
  have hc : aln c = false := (by decide +kernel : ∀ l ∈ twoL, aln (l.headD 32) = false) _ h
  unfold lexLen
  rw [hc]; exact if_pos h
theorem lex_one (e : x.cps.toList = a ++ c :: b) (hp : p = (a.length : Int)) (h : ([S "<=", S ">=", S ".."].any fun y => y == Txt.slice x (some p) (some (p + 2))) = false) (N : No c b i) : lexLen c b = i + 1 := by
  rw [two_any e hp] at h
  have h := of_decide_eq_false h
  rw [N.e]
  unfold lexLen runL
  by_cases hc : aln c = true
  · rw [if_pos hc, if_pos hc]
  · rw [if_neg hc, if_neg hc, if_neg h]
variable {row : Addr} {news : Led} {ws dn rest : List Str} {vs : List Value} {k : Nat} {tx ty t' : Tok} {m' : Str → Option Value}
theorem wj_tok (e : x.cps.toList = a ++ c :: b) (hp : p = (a.length : Int)) (D : Fwd vs dn) (S1 : Sc (c :: b) rest) (ew : ws = dn ++ rest) (hc : (Txt.item x p != S " ") = true) (hq : q = p + (lexLen c b : Nat)) (ok : PyData.strOk x = true)
    (g1 : m' (S "source") = some (.str x tx)) (g2 : m' (S "row") = some (.ref row)) (g3 : m' (S "at") = some (.int q t')) : WJ x row news ws ((c :: b).drop (lexLen c b)).length m' ((row, W.listOf (List.toArray (vs ++ [.str (Txt.slice x (some p) (some q)) ty])) (k + 1)) :: news) := by
  rw [sp_item e hp] at hc
  have hl := lexLen_le c b
  cases S1 with
  | sp _ => exact absurd hc (by decide)
  | @tok _ _ ws2 hc2 S2 =>
    refine ⟨_, _, dn ++ [mkS ((c :: b).take (lexLen c b))], _, a ++ (c :: b).take (lexLen c b), (c :: b).drop (lexLen c b), q, t', tx, rfl, g1, g2, g3, rfl, ?_, ?_, ?_, S2, ?_⟩
    · rw [e, List.append_assoc, List.take_append_drop]
    · rw [List.length_append, List.length_take, Nat.min_eq_left (show lexLen c b ≤ (c :: b).length from hl), hq, hp]; rfl
    · have sl := slice_at e hp (lexLen c b)
      rw [← hq] at sl
      rw [← sl]
      exact .snoc D (slice_ok ok _ _)
    · rw [ew, List.append_assoc]; rfl
theorem wj_sp (e : x.cps.toList = a ++ c :: b) (hp : p = (a.length : Int)) (D : Fwd vs dn) (S1 : Sc (c :: b) rest) (ew : ws = dn ++ rest) (hc : (Txt.item x p != S " ") = false) (hq : q = p + (lexLen c b : Nat))
    (g1 : m' (S "source") = some (.str x tx)) (g2 : m' (S "row") = some (.ref row)) (g3 : m' (S "at") = some (.int q t')) : WJ x row news ws ((c :: b).drop (lexLen c b)).length m' ((row, W.listOf (List.toArray vs) k) :: news) := by
  rw [sp_item e hp] at hc
  have h32 : c = 32 := eq_of_beq ((Bool.not_eq_false' _).mp hc)
  subst h32
  cases S1 with
  | tok hc2 _ => exact absurd rfl hc2
  | sp S2 =>
    rw [lex_sp] at hq ⊢
    exact ⟨_, _, dn, rest, a ++ [32], b, q, t', tx, rfl, g1, g2, g3, rfl, by rw [e, List.append_assoc]; rfl, by rw [List.length_append, hq, hp]; rfl, D, S2, ew⟩
end
theorem ws2_intro {h₀ h' : Heap} {L : Addr} {s : Shared} {J : Nat → (Str → Option Value) → Led → Prop} {Q : Flow → Shared → Prop} {n n' tk : Nat} {m₂ : Str → Option Value} {news₂ all : Led} (F : Fr h₀ L h' m₂) (N : News h₀ L h' all) (sub : ∀ p ∈ news₂, p ∈ all) (hn : n' < n) (j : J n' m₂ news₂) :
    WhileStep2 h₀ L s J Q n .next { s with heap := h', toks := tk } := ⟨h', tk, m₂, news₂, n', rfl, F, News.sub N sub, hn, j⟩
end T_W3
inductive WPost (news : Led) (ws : List Str) (r : Value) (news' : Led) : Prop
  | mk (tl : Led) (wl : Addr) (n : Nat) (vs : List Value) : news' = tl ++ news → Fre tl news → r = .ref wl → (wl, W.listOf (List.toArray vs) n) ∈ tl → RowIs vs ws → WPost news ws r news'
theorem w4_hp {p : Int} {a b n : Nat} (hp : p = (a : Int)) (hl : a + b = n) : 0 ≤ p ∧ p ≤ (n : Int) := by lia
theorem w4_vs {v a r n : Nat} (h1 : v = a) (h2 : a + r = n) (hw : n ≤ 4096) : v ≤ 4096 := by lia
theorem w4_no {p : Int} {a n : Nat} (hp : p = (a : Int)) (hl : a + 0 = n) (h : p < (n : Int)) : False := by lia
theorem w4_q0 {p q : Int} {i : Nat} (h0 : 0 ≤ p) (hq : q = p + 1 + (i : Int)) : 0 ≤ q := by lia
theorem w4_q1 {p : Int} : p + 1 = p + 1 + ((0 : Nat) : Int) := by lia
theorem w4_n1 {n i k : Nat} (h : n + i = k) (hi : i < k) : n - 1 < n := by lia
theorem w4_n2 {n i k : Nat} (h : n + i = k) (hi : i < k) : n - 1 + (i + 1) = k := by lia
theorem w4_q2 {p q : Int} {i : Nat} (h : q = p + 1 + (i : Int)) : q + 1 = p + 1 + ((i + 1 : Nat) : Int) := by lia
theorem w4_dr {n k b : Nat} (hn : n = b + 1) (hk : 0 < k) : b + 1 - k < n := by lia
theorem w4_q3 {p q : Int} {i : Nat} (h : q = p + 1 + (i : Int)) : q = p + ((i + 1 : Nat) : Int) := by lia
section T_W4
section
local macro_rules | `(tactic| ktr_room) => `(tactic| exact rm0 (by assumption))
local macro_rules | `(tactic| ktr_units) => `(tactic| exact rm1 (by assumption))
local macro_rules | `(tactic| k_ne) => `(tactic| ((try dsimp only); first | with_reducible assumption | exact Nat.ne_of_gt (by simp only [*]) | exact Nat.ne_of_lt (by simp only [*])))
local macro_rules | `(tactic| k_mem) => `(tactic| first | assumption | exact List.mem_cons_self | (refine' List.mem_cons_of_mem _ ?_; k_mem) | (refine' List.mem_append_left _ ?_; k_mem) | (refine' List.mem_append_right _ ?_; k_mem))
local macro_rules | `(tactic| walk_at "exec While Compare cons nil") => `(tactic| (k_here; refine Held.of ?_))
local macro_rules | `(tactic| walk_at "exec While BoolOp cons nil") => `(tactic| (k_here; refine Held.of ?_))
local macro_rules | `(tactic| walk_at "eval Name") => `(tactic| (k_here; k_dflt (refine' ld ?k1 ?k2 ?_; (case k1 => k_asm); (case k2 => with_reducible assumption); k_whole)))
local macro_rules | `(tactic| walk_at "eval Name") => `(tactic| (k_here; k_dflt (refine' ld ?k1 ?k2 ?_; (case k1 => k_asm); (case k2 => ((try dsimp only); (refine Eq.trans (if_neg (by decide +kernel)) ?_); (repeat (refine Eq.trans (if_neg (by decide +kernel)) ?_)); with_reducible assumption)); k_whole)))
local macro_rules | `(tactic| walk_at "loadName") => `(tactic| (k_here; k_dflt (refine' ldn ?k1 ?k2 ?_; (case k1 => k_asm); (case k2 => with_reducible assumption); k_whole)))
theorem words_ok (w : World) (news : Led) (x : Str) (t0 : Tok) (ws : List Str) (hS : Sc x.cps.toList ws) (hx : x.length ≤ 20000) (ok : PyData.strOk x = true) (hw : ws.length ≤ 4096) :
    Runs w 1 news 424 [.str x t0] (WPost news ws) := by
  unfold Runs
  w_top off
  k_fill
  intro p loose mean mg mb dp un gd cn cs a ccd cl outer A₀ base h₀ L m s Q E B F X N T hk hd hu hret
  refine wpAny_call ?_
  k_dflt ktr_enter
  repeat' (first | (k_unfold; (try dsimp only)) | (k_end; wrow_close) | ((with_reducible show wpAny _ _ (call (Value.builtin "list.append") _ _) _ _ _); first | (k_here; k_dflt (refine' row_append ?F ?N ?U ?z ?_; (case F => k_asm); (case N => k_asm); (case U => k_upd); (case z => exact Nat.le_trans (by with_reducible assumption) (by decide))); (intro _ _ _; k_sweep))) | ((with_reducible show wpAny _ _ (compareOp CmpOp.In (Value.str _ _) (Value.ref _)) _ _ _); first | (k_here; k_dflt (refine' in_words ?N ?ma ?R ?ok ?hx ?hu ?_; (case N => k_asm); (case ma => k_mem); (case R => exact .cons (.cons (.cons .nil))); (case ok => decide +kernel); (case hx => exact slice_ok (by assumption) _ _); (case hu => ktr_units)))) | walk1 | (dsimp only; walk1) | (leave1; walk_say "STEP leave1"; try dsimp only) | fail "no step")
  refine Held.mk ?_
  (with_reducible rename Fr _ _ _ _ => F1)
  (with_reducible rename News _ _ _ _ => N1)
  rename_i row hA l1 hB hC
  k_dflt refine' While_inv2 (n₀ := x.cps.toList.length) (WJ x row news ws) F1 N1 ?J ?turn
  case J => exact ⟨[], _, [], ws, [], x.cps.toList, 0, _, _, rfl, rfl, rfl, rfl, rfl, rfl, rfl, .nil, hS, rfl⟩
  case turn =>
    intro n m₁ news₁ h₁ tk₁ F₁ N₁ hJ
    obtain ⟨vs, k, dn, rest, a', b, p, t, tx, hn, hm1, hm2, hm3, rfl, e, hp, D, S1, ew⟩ := hJ
    clear F1 N1
    have hl := len_of e
    have hp0 : 0 ≤ p := (w4_hp hp hl.symm).1
    have hp1 : p ≤ (x.length : Int) := (w4_hp hp hl.symm).2
    have hvs : vs.length ≤ 4096 := w4_vs D.len (by rw [ew, List.length_append]) hw
    have hpH : Held (p = (a'.length : Int)) := hp
    have hlH : Held (x.length = a'.length + b.length) := hl
    clear hp hl
    repeat' (first | (k_unfold; (try dsimp only)) | (k_end; wrow_close) | ((with_reducible show wpAny _ _ (call (Value.builtin "list.append") _ _) _ _ _); first | (k_here; k_dflt (refine' row_append ?F ?N ?U ?z ?_; (case F => k_asm); (case N => k_asm); (case U => k_upd); (case z => exact Nat.le_trans (by with_reducible assumption) (by decide))); (intro _ _ _; k_sweep))) | ((with_reducible show wpAny _ _ (compareOp CmpOp.In (Value.str _ _) (Value.ref _)) _ _ _); first | (k_here; k_dflt (refine' in_words ?N ?ma ?R ?ok ?hx ?hu ?_; (case N => k_asm); (case ma => k_mem); (case R => exact .cons (.cons (.cons .nil))); (case ok => decide +kernel); (case hx => exact slice_ok (by assumption) _ _); (case hu => ktr_units)))) | walk1 | (dsimp only; walk1) | (leave1; walk_say "STEP leave1"; try dsimp only) | fail "no step")
    · refine Held.mk ?_
      (with_reducible rename Fr _ _ _ _ => F2)
      (with_reducible rename News _ _ _ _ => N2)
      have hpl : p < (x.length : Int) := by assumption
      obtain ⟨c, b', rfl⟩ : ∃ c b', b = c :: b' := by
        cases b with
        | nil => exact (w4_no hpH (Eq.symm hlH) hpl).elim
        | cons c b' => exact ⟨c, b', rfl⟩
      k_dflt refine' While_inv2 (n₀ := b'.length) (WI x row a' b' c p ((row, W.listOf (List.toArray vs) k) :: news)) F2 N2 ?J2 ?turn2
      case J2 => exact ⟨0, _, _, _, _, rfl, (if_neg (by decide +kernel)).trans hm1, (if_neg (by decide +kernel)).trans hm2, (if_neg (by decide +kernel)).trans hm3, rfl, rfl, w4_q1, Nat.zero_le _, fun h => absurd rfl h⟩
      case turn2 =>
        intro n2 m₂ news₂ h₂ tk₂ F₃ N₃ hJ2
        obtain ⟨i, q, t3, t4, tx2, hn2, g1, g2, g3, g4, rfl, hq, hi, hal⟩ := hJ2
        clear F2 N2
        have htw := takeWhile_len (p := aln) b'
        have hq0 : 0 ≤ q := w4_q0 hp0 hq
        have hqH : Held (q = p + 1 + (i : Int)) := hq
        clear hq
        refine test_cut (Yes c b' i) (No c b' i) ?h9 ?k1 ?k2
        case h9 =>
          repeat' (first | (k_unfold; (try dsimp only)) | (k_end; wrow_close) | ((with_reducible show wpAny _ _ (call (Value.builtin "list.append") _ _) _ _ _); first | (k_here; k_dflt (refine' row_append ?F ?N ?U ?z ?_; (case F => k_asm); (case N => k_asm); (case U => k_upd); (case z => exact Nat.le_trans (by with_reducible assumption) (by decide))); (intro _ _ _; k_sweep))) | ((with_reducible show wpAny _ _ (compareOp CmpOp.In (Value.str _ _) (Value.ref _)) _ _ _); first | (k_here; k_dflt (refine' in_words ?N ?ma ?R ?ok ?hx ?hu ?_; (case N => k_asm); (case ma => k_mem); (case R => exact .cons (.cons (.cons .nil))); (case ok => decide +kernel); (case hx => exact slice_ok (by assumption) _ _); (case hu => ktr_units)))) | walk1 | (dsimp only; walk1) | (leave1; walk_say "STEP leave1"; try dsimp only) | fail "no step")
          all_goals (first
            | exact absurd (by with_reducible assumption : true = false) Bool.noConfusion
            | exact absurd (by with_reducible assumption : false = true) Bool.noConfusion
            | exact yes1 e hpH hqH hi (by with_reducible assumption) (by with_reducible assumption) (by with_reducible assumption)
            | exact no1 e hpH hal (by with_reducible assumption)
            | exact no2 e hpH hqH hi (by with_reducible assumption) (by with_reducible assumption)
            | exact no3 e hpH hqH hi (by with_reducible assumption) (by with_reducible assumption) (by with_reducible assumption))
        case k1 =>
          intro hY tk9
          repeat' (first | (k_unfold; (try dsimp only)) | (k_end; wrow_close) | ((with_reducible show wpAny _ _ (call (Value.builtin "list.append") _ _) _ _ _); first | (k_here; k_dflt (refine' row_append ?F ?N ?U ?z ?_; (case F => k_asm); (case N => k_asm); (case U => k_upd); (case z => exact Nat.le_trans (by with_reducible assumption) (by decide))); (intro _ _ _; k_sweep))) | ((with_reducible show wpAny _ _ (compareOp CmpOp.In (Value.str _ _) (Value.ref _)) _ _ _); first | (k_here; k_dflt (refine' in_words ?N ?ma ?R ?ok ?hx ?hu ?_; (case N => k_asm); (case ma => k_mem); (case R => exact .cons (.cons (.cons .nil))); (case ok => decide +kernel); (case hx => exact slice_ok (by assumption) _ _); (case hu => ktr_units)))) | walk1 | (dsimp only; walk1) | (leave1; walk_say "STEP leave1"; try dsimp only) | fail "no step")
          (with_reducible rename Fr _ _ _ _ => F5)
          (with_reducible rename News _ _ _ _ => N5)
          exact ws2_intro (n' := n2 - 1) F5 N5 (fun _ h => h) (w4_n1 hn2 (Nat.le_trans hY.lt htw)) ⟨i + 1, _, _, _, _, w4_n2 hn2 (Nat.le_trans hY.lt htw), (if_neg (by decide +kernel)).trans g1, (if_neg (by decide +kernel)).trans g2, (if_neg (by decide +kernel)).trans g3, rfl, rfl, w4_q2 hqH, hY.lt, fun _ => hY.al⟩
        case k2 =>
          intro hN tk9
          repeat' (first | (k_unfold; (try dsimp only)) | (k_end; wrow_close) | ((with_reducible show wpAny _ _ (call (Value.builtin "list.append") _ _) _ _ _); first | (k_here; k_dflt (refine' row_append ?F ?N ?U ?z ?_; (case F => k_asm); (case N => k_asm); (case U => k_upd); (case z => exact Nat.le_trans (by with_reducible assumption) (by decide))); (intro _ _ _; k_sweep))) | ((with_reducible show wpAny _ _ (compareOp CmpOp.In (Value.str _ _) (Value.ref _)) _ _ _); first | (k_here; k_dflt (refine' in_words ?N ?ma ?R ?ok ?hx ?hu ?_; (case N => k_asm); (case ma => k_mem); (case R => exact .cons (.cons (.cons .nil))); (case ok => decide +kernel); (case hx => exact slice_ok (by assumption) _ _); (case hu => ktr_units)))) | walk1 | (dsimp only; walk1) | (leave1; walk_say "STEP leave1"; try dsimp only) | fail "no step")
          · (with_reducible rename Fr _ _ _ _ => F5)
            (with_reducible rename News _ _ _ _ => N5)
            have hL := lex_two e hpH (by with_reducible assumption)
            exact ws2_intro F5 N5 (fun _ h => .tail _ h) (by rw [List.length_drop]; exact w4_dr hn (lexLen_pos c b')) (wj_tok e hpH D S1 ew (by with_reducible assumption) (by rw [hL]; rfl) ok ((if_neg (by decide +kernel)).trans ((if_neg (by decide +kernel)).trans g1)) ((if_neg (by decide +kernel)).trans ((if_neg (by decide +kernel)).trans g2)) rfl)
          · (with_reducible rename Fr _ _ _ _ => F5)
            (with_reducible rename News _ _ _ _ => N5)
            have hL := lex_two e hpH (by with_reducible assumption)
            exact ws2_intro F5 N5 (fun _ h => .tail _ h) (by rw [List.length_drop]; exact w4_dr hn (lexLen_pos c b')) (wj_sp e hpH D S1 ew (by with_reducible assumption) (by rw [hL]; rfl) ((if_neg (by decide +kernel)).trans ((if_neg (by decide +kernel)).trans g1)) ((if_neg (by decide +kernel)).trans ((if_neg (by decide +kernel)).trans g2)) rfl)
          · (with_reducible rename Fr _ _ _ _ => F5)
            (with_reducible rename News _ _ _ _ => N5)
            have hL := lex_one e hpH (by with_reducible assumption) hN
            exact ws2_intro F5 N5 (fun _ h => .tail _ h) (by rw [List.length_drop]; exact w4_dr hn (lexLen_pos c b')) (wj_tok e hpH D S1 ew (by with_reducible assumption) (by rw [hL]; exact w4_q3 hqH) ok ((if_neg (by decide +kernel)).trans g1) ((if_neg (by decide +kernel)).trans g2) rfl)
          · (with_reducible rename Fr _ _ _ _ => F5)
            (with_reducible rename News _ _ _ _ => N5)
            have hL := lex_one e hpH (by with_reducible assumption) hN
            exact ws2_intro F5 N5 (fun _ h => .tail _ h) (by rw [List.length_drop]; exact w4_dr hn (lexLen_pos c b')) (wj_sp e hpH D S1 ew (by with_reducible assumption) (by rw [hL]; exact w4_q3 hqH) ((if_neg (by decide +kernel)).trans g1) ((if_neg (by decide +kernel)).trans g2) rfl)
    · rename_i hlt h9 F9 N9 kF kN Tc kX
      have hb0 : b = [] := by
        cases b with
        | nil => rfl
        | cons c b' => have hp : p = (a'.length : Int) := hpH; have hl : x.length = a'.length + (b'.length + 1) := hlH; lia
      subst hb0
      have hr : rest = [] := by cases S1; rfl
      subst hr
      rw [krv_pick] at kN
      refine hret _ _ _ _ ⟨[(_, _), (_, _)], _, 0, vs.reverse, rfl, ?_, rfl, .head _, ?_⟩ kF kN
      · intro q hq z hz
        have hs := Heap.lt_size (N₁ q (.tail _ hq)).1
        have h1 := l1 q hq
        simp only [List.mem_cons, List.not_mem_nil, or_false] at hz
        rcases hz with rfl | rfl
        · exact Nat.ne_of_gt (Nat.lt_succ_of_lt hs)
        · exact Nat.ne_of_gt h1
      · have := D.rev
        rw [ew]; simpa using this
end
end T_W4
theorem ne_l0 {x y : Addr} (h : y < x) : x ≠ y := Nat.ne_of_gt h
theorem allLt_all {x : Addr} {l : Led} (h : AllLt x l) : ∀ p ∈ l, p.1 ≠ x := fun p hp => Nat.ne_of_lt (ktn_ltOf h p hp)
theorem lt_all {x : Addr} {l : Led} (h : ∀ q ∈ l, q.1 < x) : ∀ p ∈ l, p.1 ≠ x := fun p hp => Nat.ne_of_lt (h p hp)
inductive TypePost (news : Led) (form : Str) (t2 : Tok) (r : Value) (news' : Led) : Prop
  | mk (tl : Led) (x : Addr) (dx : Addr) (es : List DictEntry) (n : Nat) (f : Str → Option Value) : news' = (dx, dictOf es n) :: (x, instObj 310 dx) :: (tl ++ news) → Fre tl news → (∀ p ∈ news, p.1 < dx) → dx < x → (∀ p ∈ tl, p.1 ≠ dx ∧ p.1 ≠ x) → r = .ref x → Att es f 20 → f (S "form") = some (.str form t2) → TypePost news form t2 r news'
theorem Runs.useTy {w : World} {sz : Nat} {news : Led} {f : Addr} {vs : List Value} {nz : Led} {form : Str} {t2 : Tok} (R : Runs w sz news f vs (TypePost nz form t2))
    {p : Program} {loose : List Str} {mean : ExcName → Option Value} {mg mb : Str → Option Value} {dp un : Nat} {gd : Option (List Code)} {cn : Str} {cs : Scope} {a : Addr} {ccd : Value} {cl : List (Str × Addr)} {outer : List Env} {A₀ : Around} {base h₀ : Heap} {L : Addr} {m : Str → Option Value} {s : Shared}
    {Q E : Value → Shared → Prop}
    (F : Fr h₀ L s.heap m) (B : Below A₀ base outer h₀) (X : (hd.heap_39 w.params).In h₀) (T : Top p loose mean mg mb h₀) (hk : cs.kind = .function) (N : News h₀ L s.heap news) (hd : dp + sz < recursionLimit) (hu : un + 8 * sz + 200 < cLine)
    (ret : ∀ h' tk', Fr h₀ L h' m → ∀ (tl : Led) (x dx : Addr) (es : List DictEntry) (n : Nat) (f : Str → Option Value), Fre tl nz → (∀ p ∈ nz, p.1 < dx) → dx < x → (∀ p ∈ tl, p.1 ≠ dx ∧ p.1 ≠ x) → Att es f 20 → f (S "form") = some (.str form t2) → News h₀ L h' ((dx, dictOf es n) :: (x, instObj 310 dx) :: (tl ++ nz)) → Q (.ref x) { s with heap := h', toks := tk' }) :
    wpAny (model PySem.Challenge.rw_pb0356_01.row.prog w) (ktrTop dp un gd cn cs L a ccd cl outer) (call (.ref f) vs) Q E s :=
  R.use B F X N T hk hd hu fun r n h t p F N => by
    obtain ⟨tl, x, dx, es, n', f, rfl, Y, l, l', z, rfl, A, g⟩ := p
    exact ret h t F tl x dx es n' f Y l l' z A g N
theorem type_fin {news : Led} {form : Str} {t2 : Tok} {x d a b c : Addr} {oa ob oc : Obj} {es : List DictEntry} {n len : Nat} {f : Str → Option Value} (h1 : ∀ p ∈ news, p.1 < d) (h2 : d < x) (ha : x < a ∧ d < a ∧ AllLt a news) (hb : a < b ∧ x < b ∧ d < b ∧ AllLt b news) (hc : b < c ∧ a < c ∧ x < c ∧ d < c ∧ AllLt c news)
    (A : Att es f len) (hl : len ≤ 20) (hf : f (S "form") = some (.str form t2)) : TypePost news form t2 (.ref x) ((d, dictOf es n) :: (x, instObj 310 d) :: ([(c, oc), (b, ob), (a, oa)] ++ news)) := by
  refine ⟨_, x, d, es, n, f, rfl, ?_, h1, h2, ?_, rfl, ⟨A.get, Nat.le_trans A.len hl, A.key⟩, hf⟩
  · exact fun q hq => List.forall_mem_cons.mpr ⟨Nat.ne_of_gt (ktn_ltOf hc.2.2.2.2 q hq), List.forall_mem_cons.mpr ⟨Nat.ne_of_gt (ktn_ltOf hb.2.2.2 q hq), List.forall_mem_cons.mpr ⟨Nat.ne_of_gt (ktn_ltOf ha.2.2 q hq), fun _ h => nomatch h⟩⟩⟩
  · exact List.forall_mem_cons.mpr ⟨⟨Nat.ne_of_gt hc.2.2.2.1, Nat.ne_of_gt hc.2.2.1⟩, List.forall_mem_cons.mpr ⟨⟨Nat.ne_of_gt hb.2.2.1, Nat.ne_of_gt hb.2.1⟩, List.forall_mem_cons.mpr ⟨⟨Nat.ne_of_gt ha.2.1, Nat.ne_of_gt ha.1⟩, fun _ h => nomatch h⟩⟩⟩
theorem type_end {news : Led} {form : Str} {t2 : Tok} {x d a b c : Addr} {oa ob oc : Obj} {es : List DictEntry} {n len : Nat} {f : Str → Option Value} {h₀ h' : Heap} {L : Addr} {m : Str → Option Value} {P : Value → Led → Heap → Nat → Prop} {tk : Nat}
    (ret : ∀ r news' h' tk', TypePost news form t2 r news' → Fr h₀ L h' m → News h₀ L h' news' → P r news' h' tk') (F : Fr h₀ L h' m) (N : News h₀ L h' ((c, oc) :: (b, ob) :: (a, oa) :: (x, instObj 310 d) :: (d, dictOf es n) :: news)) (h1 : ∀ p ∈ news, p.1 < d) (h2 : d < x) (ha : x < a ∧ d < a ∧ AllLt a news) (hb : a < b ∧ x < b ∧ d < b ∧ AllLt b news) (hc : b < c ∧ a < c ∧ x < c ∧ d < c ∧ AllLt c news)
    (A : Att es f len) (hl : len ≤ 20) (hf : f (S "form") = some (.str form t2)) : P (.ref x) ((d, dictOf es n) :: (x, instObj 310 d) :: ([(c, oc), (b, ob), (a, oa)] ++ news)) h' tk :=
  ret _ _ _ _ (type_fin h1 h2 ha hb hc A hl hf) F (News.sub N (List.forall_mem_cons.mpr ⟨.tail _ (.tail _ (.tail _ (.tail _ (.head _)))), List.forall_mem_cons.mpr ⟨.tail _ (.tail _ (.tail _ (.head _))), List.forall_mem_cons.mpr ⟨.head _, List.forall_mem_cons.mpr ⟨.tail _ (.head _), List.forall_mem_cons.mpr ⟨.tail _ (.tail _ (.head _)), fun _ h => .tail _ (.tail _ (.tail _ (.tail _ (.tail _ (h)))))⟩⟩⟩⟩⟩))
theorem z_fst {tl : Led} {d x : Addr} (z : ∀ p ∈ tl, p.1 ≠ d ∧ p.1 ≠ x) : ∀ p ∈ tl, p.1 ≠ d := fun p hp => (z p hp).1
theorem lt_head {q : Addr} {o : Obj} {l : Led} {d : Addr} (h : ∀ p ∈ (q, o) :: l, p.1 < d) : q < d := h _ (.head _)
theorem lt_tail {a : Addr × Obj} {l : Led} {d : Addr} (h : ∀ p ∈ a :: l, p.1 < d) : ∀ p ∈ l, p.1 ≠ d := fun p hp => Nat.ne_of_lt (h p (.tail _ hp))
inductive NewPost (fz : Led) (dx : Addr) (f : Str → Option Value) (len : Nat) (k : Int) (form : Str) (r : Value) (news' : Led) : Prop
  | mk (tl : Led) (es' : List DictEntry) (n' : Nat) (t : Tok) : news' = (dx, dictOf es' n') :: (tl ++ fz) → Fre tl fz → (∀ p ∈ tl, p.1 ≠ dx) → Att es' (fun y => if y = S "counter" then some (.int (k + 1) t) else f y) (len + 1) → TypeO tl r form → handedIn r = true → NewPost fz dx f len k form r news'
theorem Runs.useNw {w : World} {sz : Nat} {news : Led} {f : Addr} {vs : List Value} {fz : Led} {dx : Addr} {f0 : Str → Option Value} {len : Nat} {k : Int} {form : Str} (R : Runs w sz news f vs (NewPost fz dx f0 len k form))
    {p : Program} {loose : List Str} {mean : ExcName → Option Value} {mg mb : Str → Option Value} {dp un : Nat} {gd : Option (List Code)} {cn : Str} {cs : Scope} {a : Addr} {ccd : Value} {cl : List (Str × Addr)} {outer : List Env} {A₀ : Around} {base h₀ : Heap} {L : Addr} {m : Str → Option Value} {s : Shared}
    {Q E : Value → Shared → Prop}
    (F : Fr h₀ L s.heap m) (B : Below A₀ base outer h₀) (X : (hd.heap_39 w.params).In h₀) (T : Top p loose mean mg mb h₀) (hk : cs.kind = .function) (N : News h₀ L s.heap news) (hd : dp + sz < recursionLimit) (hu : un + 8 * sz + 200 < cLine)
    (ret : ∀ r h' tk', Fr h₀ L h' m → ∀ (tl : Led) (es' : List DictEntry) (n' : Nat) (t : Tok), Fre tl fz → (∀ p ∈ tl, p.1 ≠ dx) → Att es' (fun y => if y = S "counter" then some (.int (k + 1) t) else f0 y) (len + 1) → TypeO tl r form → handedIn r = true → News h₀ L h' ((dx, dictOf es' n') :: (tl ++ fz)) → Q r { s with heap := h', toks := tk' }) :
    wpAny (model PySem.Challenge.rw_pb0356_01.row.prog w) (ktrTop dp un gd cn cs L a ccd cl outer) (call (.ref f) vs) Q E s :=
  R.use B F X N T hk hd hu fun r n h t p F N => by
    obtain ⟨tl, es', n', t', rfl, Y, z, A, Ty, v⟩ := p
    exact ret r h t F tl es' n' t' Y z A Ty v N
theorem new_end {fz tl8 : Led} {form : Str} {x8 d8 dx : Addr} {es8 es' : List DictEntry} {n8 n' len len' lenA : Nat} {f f8 : Str → Option Value} {k : Int} {t t2 : Tok} {o : Obj} {h₀ h' : Heap} {L : Addr} {m : Str → Option Value} {P : Value → Led → Heap → Nat → Prop} {tk : Nat}
    (ret : ∀ r news' h' tk', NewPost fz dx f lenA k form r news' → Fr h₀ L h' m → News h₀ L h' news' → P r news' h' tk') (F : Fr h₀ L h' m) (N : News h₀ L h' ((d8, dictOf es8 n8) :: (x8, instObj 310 d8) :: (tl8 ++ (dx, dictOf es' n') :: fz)))
    (Y : Fre tl8 ((dx, o) :: fz)) (l8 : ∀ p ∈ (dx, o) :: fz, p.1 < d8) (l9 : d8 < x8) (A8 : Att es8 f8 len) (g8 : f8 (S "form") = some (.str form t2)) (A : Att es' (fun y => if y = S "counter" then some (.int (k + 1) t) else f y) len') (hl : len' ≤ lenA + 1) :
    P (.ref x8) ((dx, dictOf es' n') :: (((d8, dictOf es8 n8) :: (x8, instObj 310 d8) :: tl8) ++ fz)) h' tk := by
  refine ret _ _ _ _ ⟨_, es', n', t, rfl, ?_, ?_, ⟨A.get, Nat.le_trans A.len hl, A.key⟩, ⟨x8, d8, es8, n8, t2, rfl, .tail _ (.head _), .head _, A8.at g8⟩, rfl⟩ F (News.sub N ?_)
  · exact fun q hq => List.forall_mem_cons.mpr ⟨Nat.ne_of_gt (l8 q (.tail _ hq)), List.forall_mem_cons.mpr ⟨Nat.ne_of_gt (Nat.lt_trans (l8 q (.tail _ hq)) l9), Y q (.tail _ hq)⟩⟩
  · exact List.forall_mem_cons.mpr ⟨Nat.ne_of_gt (l8 _ (.head _)), List.forall_mem_cons.mpr ⟨Nat.ne_of_gt (Nat.lt_trans (l8 _ (.head _)) l9), Y _ (.head _)⟩⟩
  · exact List.forall_mem_cons.mpr ⟨.tail _ (.tail _ (List.mem_append_right _ (.head _))), List.forall_mem_cons.mpr ⟨.head _, List.forall_mem_cons.mpr ⟨.tail _ (.head _), List.forall_mem_append.mpr ⟨fun _ h => .tail _ (.tail _ (List.mem_append_left _ h)), fun _ h => .tail _ (.tail _ (List.mem_append_right _ (.tail _ h)))⟩⟩⟩⟩
theorem ne_a1 {x y : Addr} {Q : Prop} (h : y < x ∧ Q) : x ≠ y := Nat.ne_of_gt h.1
theorem ne_a2 {x y : Addr} {P Q : Prop} (h : P ∧ y < x ∧ Q) : x ≠ y := Nat.ne_of_gt h.2.1
theorem Att.at0 {es : List DictEntry} {f : Str → Option Value} {len : Nat} (A : Att es f len) {y : Str} (h : f y = none) : getL y es = some none := by rw [A.get, h]
inductive TyPost (news : Led) (r : Value) (news' : Led) : Prop
  | mk (tl : Led) : news' = tl ++ news → Fre tl news → TypesO tl r → TyPost news r news'
theorem types_end {news led rest : Led} {x d : Addr} {es : List DictEntry} {n len : Nat} {f : Str → Option Value} {r4 r1 r5 : Value} {h₀ h' : Heap} {L : Addr} {m : Str → Option Value} {P : Value → Led → Heap → Nat → Prop} {tk : Nat}
    (ret : ∀ r news' h' tk', TyPost news r news' → Fr h₀ L h' m → News h₀ L h' news' → P r news' h' tk') (F : Fr h₀ L h' m) (N : News h₀ L h' ((d, dictOf es n) :: rest)) (hr : rest = led ++ news) (hd : ∀ q ∈ news, q.1 < d) (fr : Fre led news) (mx : (x, instObj 367 d) ∈ led)
    (A : Att es f len) (g1 : f (S "integer") = some r4) (g2 : f (S "boolean") = some r1) (g3 : f (S "mask") = some r5) (v4 : handedIn r4 = true) (v1 : handedIn r1 = true) (v5 : handedIn r5 = true) (T4 : TypeO led r4 (S "integer")) (T1 : TypeO led r1 (S "boolean")) : P (.ref x) (((d, dictOf es n) :: led) ++ news) h' tk :=
  ret _ _ _ _ ⟨(d, dictOf es n) :: led, rfl, fun q hq p hp => (List.mem_cons.mp hp).elim (fun e => by rw [e]; exact Nat.ne_of_gt (hd q hq)) (fr q hq p), ⟨x, d, es, n, r4, r1, r5, rfl, .tail _ mx, .head _, A.at g1, A.at g2, A.at g3, v4, v1, v5, T4.mono (fun _ h => .tail _ h), T1.mono (fun _ h => .tail _ h)⟩⟩ F (by subst hr; exact N)
section T_Y1
section
local macro_rules | `(tactic| ktr_room) => `(tactic| exact rm0 (by assumption))
local macro_rules | `(tactic| ktr_units) => `(tactic| exact rm1 (by assumption))
local macro_rules | `(tactic| k_ne) => `(tactic| ((try dsimp only); first | with_reducible assumption | exact Nat.ne_of_gt (by simp only [*]) | exact Nat.ne_of_lt (by simp only [*])))
local macro_rules | `(tactic| k_mem) => `(tactic| first | assumption | exact List.mem_cons_self | (refine' List.mem_cons_of_mem _ ?_; k_mem) | (refine' List.mem_append_left _ ?_; k_mem) | (refine' List.mem_append_right _ ?_; k_mem))
local macro_rules | `(tactic| walk_at "setAttr ref") => `(tactic| (k_here; k_dflt (refine' set_abs ?k1 ?k2 ?k3 ?k4 ?k5 ?k6 ?k7 ?k8 ?k9 ?k10 ?k11 ?k12 ?_; (case k1 => k_asm); (case k2 => k_asm); (case k3 => k_asm); (case k4 => k_inst); (case k5 => exact rfl); (case k6 => k_is); (case k7 => k_is); (case k8 => k_is); (case k9 => k_is); (case k10 => with_reducible assumption); (case k11 => first | decide | lia); (case k12 => k_updF); k_whole; intro h' es' n' tk' F' N' A'; (try dsimp only at N'); (try k_sweep))))
theorem type_ok (w : World) (news : Led) (k sz : Int) (form : Str) (t1 t2 t3 : Tok) :
    Runs w 3 news 310 [.int k t1, .str form t2, .int sz t3] (TypePost news form t2) := by
  have A0 := att_nil
  unfold Runs
  w_top off
  k_fill
  intro p loose mean mg mb dp un gd cn cs a ccd cl outer A₀ base h₀ L m s Q E B F X N T hk hd hu hret
  k_dflt (refine' call_cls ?k1 ?k2 ?k3 ?k4 ?k5 ?k6 ?_; (case k1 => k_asm); (case k2 => k_asm); (case k3 => k_asm); (case k4 => k_is); (case k5 => k_is); (case k6 => k_is); k_whole; intro x' d' h' F' N' l1 l2; (try k_lt2 l2); (try k_sweep); k_dflt (refine' code_def ?k1 ?k2 ?k3 ?k4 ?k5 ?kA ?kF ?kK ?k6 ?k7 ?k8 ?k9 ?kB ?_ ?c2 ?c3 ?c4 ?c5; (case kA => exact rfl); (case kF => exact rfl); (case kK => first | exact rfl | assumption); (case k1 => k_asm); (case k2 => k_asm); (case k3 => k_asm); (case k4 => k_asm); (case k5 => k_asm); (case k6 => k_is); (case k7 => k_is); (case k8 => ktr_room); (case k9 => first | exact BindsTo.of_eq rfl | exact binds_K (by k_in) rfl (by k_is) rfl rfl rfl); (case c5 => decide); (case kB => exact locs rfl); (case c2 => exact rfl); (case c3 => exact rfl); (case c4 => exact rfl); k_whole; intro _ _ _ _ _ _ _ _ _; (try dsimp only); (try k_fold)))
  repeat' (first | (k_unfold; (try dsimp only)) | (k_end; wrow_close) | ((with_reducible show wpAny _ _ (getAttr (Value.ref _) _ _) _ _ _); first | (k_here; k_dflt (refine' get_own ?k1 ?k2 ?k3 ?k4 ?k5 ?k6 ?k7 ?k8 ?k9 ?_; (case k1 => k_asm); (case k2 => k_asm); (case k3 => k_inst); (case k4 => k_is); (case k5 => k_is); (case k6 => k_is); (case k7 => k_is); (case k8 => exact Att.at (by with_reducible assumption) (by first | assumption | rfl)); (case k9 => first | rfl | assumption); k_whole))) | walk1 | (dsimp only; walk1) | (leave1; walk_say "STEP leave1"; try dsimp only) | fail "no step")
  (with_reducible rename News _ _ _ _ => kN)
  (with_reducible rename Att _ _ _ => kA)
  exact type_end (P := fun r _ h' tk' => Q r { s with heap := h', toks := tk' }) hret (by assumption) kN (by assumption) (by assumption) (by assumption) (by assumption) (by assumption) kA (by decide) rfl
local macro_rules | `(tactic| k_ne) => `(tactic| first | assumption | exact Ne.symm (by assumption) | exact ne_l0 (by assumption) | exact Ne.symm (ne_l0 (by assumption)) | exact ne_a1 (by assumption) | exact ne_a2 (by assumption))
local macro_rules | `(tactic| k_all) => `(tactic| (refine' fre_ne ?Y ?m; (case Y => assumption); (case m => k_mem)))
local macro_rules | `(tactic| k_all) => `(tactic| (refine' all_app ?a ?b; (case a => k_all); (case b => k_all)))
local macro_rules | `(tactic| k_all) => `(tactic| assumption)
local macro_rules | `(tactic| k_upd) => `(tactic| (refine' upd_app ?a ?b; (case a => k_all); (case b => k_upd)))
local macro_rules | `(tactic| walk_at "n room") => `(tactic| first | decide | exact Nat.le_refl _ | exact Nat.le_succ _ | exact Nat.le_add_left _ _ | exact Nat.add_le_add_left (by decide) _ | lia)
theorem new_ok (w : World) (fz : Led) (x dx : Addr) (es : List DictEntry) (n : Nat) (f : Str → Option Value) (k sz : Int) (form : Str) (tk t2 t3 : Tok) (hx : (x, instObj 367 dx) ∈ fz) (hz : ∀ p ∈ fz, p.1 ≠ dx) (len : Nat) (hl : len ≤ 800) (Af : Att es f len) (hf : f (S "counter") = some (.int k tk)) :
    Runs w 5 ((dx, dictOf es n) :: fz) 357 [.ref x, .str form t2, .int sz t3] (NewPost fz dx f len k form) := by
  unfold Runs
  k_fill
  intro p loose mean mg mb dp un gd cn cs a ccd cl outer A₀ base h₀ L m s Q E B F X N T hk hd hu hret
  refine wpAny_call ?_
  k_dflt (refine' code_def ?k1 ?k2 ?k3 ?k4 ?k5 ?kA ?kF ?kK ?k6 ?k7 ?k8 ?k9 ?kB ?_ ?c2 ?c3 ?c4 ?c5; (case kA => exact rfl); (case kF => exact rfl); (case kK => first | exact rfl | assumption); (case k1 => k_asm); (case k2 => k_asm); (case k3 => k_asm); (case k4 => k_asm); (case k5 => k_asm); (case k6 => k_is); (case k7 => k_is); (case k8 => ktr_room); (case k9 => first | exact BindsTo.of_eq rfl | exact binds_K (by k_in) rfl (by k_is) rfl rfl rfl); (case c5 => decide); (case kB => exact locs rfl); (case c2 => exact rfl); (case c3 => exact rfl); (case c4 => exact rfl); k_whole; intro _ _ _ _ _ _ _ _ _; (try dsimp only); (try k_fold))
  repeat' (first | (k_unfold; (try dsimp only)) | (k_end; wrow_close) | ((with_reducible show wpAny _ _ (call (Value.ref _) _ _) _ _ _); first | (k_here; k_dflt (refine' Runs.useTy (type_ok _ _ _ _ _ _ _ _) (F := by k_asm) (B := by k_asm) (X := by k_asm) (T := by k_asm) (hk := by first | exact rfl | assumption) (N := ?N) (hd := ?hd) (hu := ?hu) (ret := ?_); (case N => k_asm); (case hd => first | exact room_d (by with_reducible assumption) (by exact rfl) (by walk_at "n room") | (show _ + _ < _; lia) | ktr_room); (case hu => first | exact room_u _ (by with_reducible assumption) (by exact rfl) (by walk_at "n room") | exact room_u (sz := 5) _ (by with_reducible assumption) (by exact rfl) (by walk_at "n room") | ktr_units); intro _ _ _ _ _ _ _ _ _ _ _ _ _ _ _ _; (have _ := z_fst (by assumption)); (have _ := lt_head (by assumption)); (have _ := lt_tail (by assumption)); (try dsimp only); k_sweep))) | ((with_reducible show wpAny _ _ (getAttr (Value.ref _) _ _) _ _ _); first | (k_here; k_dflt (refine' get_own ?k1 ?k2 ?k3 ?k4 ?k5 ?k6 ?k7 ?k8 ?k9 ?_; (case k1 => k_asm); (case k2 => k_asm); (case k3 => k_inst); (case k4 => k_is); (case k5 => k_is); (case k6 => k_is); (case k7 => k_is); (case k8 => exact Att.at (by with_reducible assumption) (by first | assumption | rfl)); (case k9 => first | rfl | assumption); k_whole))) | walk1 | (dsimp only; walk1) | (leave1; walk_say "STEP leave1"; try dsimp only) | fail "no step")
  rename_i tl8 x8 d8 es8 en8 f8 Y8 l8 l9 z8 A8 g8 z81 l81 l82 q1 q2 hA eA nA tqA AA hB eB nB tqB FA NA AC kF kN Tc kX
  exact new_end (P := fun r _ h' tk' => Q r { s with heap := h', toks := tk' }) hret kF kN Y8 l8 l9 AC ((if_neg (by decide +kernel)).trans ((if_neg (by decide +kernel)).trans g8)) (by assumption) (Nat.le_refl _)
local macro_rules | `(tactic| k_all) => `(tactic| exact lt_all (by assumption))
theorem types_ok (w : World) (news : Led) : Runs w 40 news 367 [] (TyPost news) := by
  have A0 := att_nil
  unfold Runs
  k_fill
  intro p loose mean mg mb dp un gd cn cs a ccd cl outer A₀ base h₀ L m s Q E B F X N T hk hd hu hret
  k_dflt (refine' call_cls ?k1 ?k2 ?k3 ?k4 ?k5 ?k6 ?_; (case k1 => k_asm); (case k2 => k_asm); (case k3 => k_asm); (case k4 => k_is); (case k5 => k_is); (case k6 => k_is); k_whole; intro x' d' h' F' N' l1 l2; (try k_lt2 l2); (try k_sweep); k_dflt (refine' code_def ?k1 ?k2 ?k3 ?k4 ?k5 ?kA ?kF ?kK ?k6 ?k7 ?k8 ?k9 ?kB ?_ ?c2 ?c3 ?c4 ?c5; (case kA => exact rfl); (case kF => exact rfl); (case kK => first | exact rfl | assumption); (case k1 => k_asm); (case k2 => k_asm); (case k3 => k_asm); (case k4 => k_asm); (case k5 => k_asm); (case k6 => k_is); (case k7 => k_is); (case k8 => ktr_room); (case k9 => first | exact BindsTo.of_eq rfl | exact binds_K (by k_in) rfl (by k_is) rfl rfl rfl); (case c5 => decide); (case kB => exact locs rfl); (case c2 => exact rfl); (case c3 => exact rfl); (case c4 => exact rfl); k_whole; intro _ _ _ _ _ _ _ _ _; (try dsimp only); (try k_fold)))
  repeat' (first | (k_unfold; (try dsimp only)) | (k_end; wrow_close) | ((with_reducible show wpAny _ _ (call (Value.ref _) _ _) _ _ _); first | (k_here; k_dflt (refine' Runs.useNw (new_ok _ _ _ _ _ _ _ _ _ _ _ _ _ ?hx ?hz _ ?hl ?Af ?hf) (F := by k_asm) (B := by k_asm) (X := by k_asm) (T := by k_asm) (hk := by first | exact rfl | assumption) (N := ?N) (hd := ?hd) (hu := ?hu) (ret := ?_); (case N => first | k_asm | exact News.sw3 (by k_asm)); (case hx => k_mem); (case hz => k_all); (case Af => with_reducible assumption); (case hl => decide); (case hf => first | rfl | assumption); (case hd => first | (show _ + _ < _; lia) | ktr_room); (case hu => refine' room_uu 5 40 ?huh9 ?hue9 ?hux9; (case huh9 => with_reducible assumption); (case hue9 => exact rfl); (case hux9 => decide)); intro _ _ _ _ _ _ _ _ _ _ _ _ _ _; (try dsimp only); k_sweep)) | (k_here; k_dflt (refine' Runs.useTy (type_ok _ _ _ _ _ _ _ _) (F := by k_asm) (B := by k_asm) (X := by k_asm) (T := by k_asm) (hk := by first | exact rfl | assumption) (N := ?N) (hd := ?hd) (hu := ?hu) (ret := ?_); (case N => k_asm); (case hd => first | exact room_d (by with_reducible assumption) (by exact rfl) (by walk_at "n room") | (show _ + _ < _; lia) | ktr_room); (case hu => first | exact room_u _ (by with_reducible assumption) (by exact rfl) (by walk_at "n room") | exact room_u (sz := 5) _ (by with_reducible assumption) (by exact rfl) (by walk_at "n room") | ktr_units); intro _ _ _ _ _ _ _ _ _ _ _ _ _ _ _ _; (have _ := z_fst (by assumption)); (have _ := lt_head (by assumption)); (have _ := lt_tail (by assumption)); (try dsimp only); k_sweep))) | ((with_reducible show wpAny _ _ (getAttr (Value.ref _) _ _) _ _ _); first | (k_here; k_dflt (refine' get_own ?k1 ?k2 ?k3 ?k4 ?k5 ?k6 ?k7 ?k8 ?k9 ?_; (case k1 => k_asm); (case k2 => k_asm); (case k3 => k_inst); (case k4 => k_is); (case k5 => k_is); (case k6 => k_is); (case k7 => k_is); (case k8 => exact Att.at (by with_reducible assumption) (by first | assumption | rfl)); (case k9 => first | rfl | assumption); k_whole))) | ((with_reducible show wpAny _ _ (getMethod (Value.ref _) _ _) _ _ _); first | (k_here; k_dflt (refine' method_inst ?F ?X ?I ?g ?f ?t ?l ?_; (case F => k_asm); (case X => k_asm); (case I => k_inst); (case g => k_is); (case f => k_is); (case t => k_is); (case l => exact Att.at0 (by with_reducible assumption) (by rfl)); k_whole))) | walk1 | (dsimp only; walk1) | (leave1; walk_say "STEP leave1"; try dsimp only) | fail "no step")
  rename_i dk hk0 ok lok hsk fsk hik fik l1k hk1 eek nnk tq0 AA0 r1 h1 a1 tl1 es1 en1 b1 Y1 z1 A1 T1 v1 hh1 ees1 enn1 tq1 AA1 r2 h2 a2 tl2 es2 en2 b2 Y2 z2 A2 T2 v2 hh2 ees2 enn2 tq2 AA2 r3 h3 a3 tl3 es3 en3 b3 Y3 z3 A3 T3 v3 hh3 ees3 enn3 tq3 AA3 r4 h4 a4 tl4 es4 en4 b4 Y4 z4 A4 T4 v4 hh4 ees4 enn4 tq4 AA4 r5 h5 a5 tl5 es5 en5 b5 Y5 z5 A5 T5 v5 hh5 ees5 enn5 tq5 AA5 r6 h6 a6 tl6 es6 en6 b6 Y6 z6 A6 T6 v6 hh6 ees6 enn6 tq6 AA6 r7 h7 a7 tl7 es7 en7 b7 Y7 z7 A7 T7 v7 hh7 ees7 enn7 tq7 FF7 NN7 AA7 kF kN Tc kX
  refine types_end (P := fun r _ h' tk' => Q r { s with heap := h', toks := tk' }) (led := (tl7 ++ (tl6 ++ (tl5 ++ (tl4 ++ (tl3 ++ (tl2 ++ (tl1 ++ [(dk, ok), (x', instObj 367 d')])))))))) hret kF kN ?s9 l1 ?fr9 ?m9 AA7 rfl rfl rfl v4 v1 v5 (T4.mono ?t4) (T1.mono ?t1)
  case fr9 => exact fun q hq => List.forall_mem_append.mpr ⟨Y7 q (by repeat (first | exact hq | refine List.mem_append_right _ ?_ | refine .tail _ ?_)), List.forall_mem_append.mpr ⟨Y6 q (by repeat (first | exact hq | refine List.mem_append_right _ ?_ | refine .tail _ ?_)), List.forall_mem_append.mpr ⟨Y5 q (by repeat (first | exact hq | refine List.mem_append_right _ ?_ | refine .tail _ ?_)), List.forall_mem_append.mpr ⟨Y4 q (by repeat (first | exact hq | refine List.mem_append_right _ ?_ | refine .tail _ ?_)), List.forall_mem_append.mpr ⟨Y3 q (by repeat (first | exact hq | refine List.mem_append_right _ ?_ | refine .tail _ ?_)), List.forall_mem_append.mpr ⟨Y2 q (by repeat (first | exact hq | refine List.mem_append_right _ ?_ | refine .tail _ ?_)), List.forall_mem_append.mpr ⟨Y1 q (by repeat (first | exact hq | refine List.mem_append_right _ ?_ | refine .tail _ ?_)), List.forall_mem_cons.mpr ⟨Nat.ne_of_gt (ktn_ltOf l1k.2.2 q hq), List.forall_mem_cons.mpr ⟨Nat.ne_of_gt (Nat.lt_trans (l1 q hq) l2), fun _ h => nomatch h⟩⟩⟩⟩⟩⟩⟩⟩⟩
  case m9 => repeat (first | exact .head _ | refine List.mem_append_right _ ?_ | refine .tail _ ?_)
  case t4 => intro q hq; repeat (first | exact List.mem_append_left _ hq | refine List.mem_append_right _ ?_)
  case t1 => intro q hq; repeat (first | exact List.mem_append_left _ hq | refine List.mem_append_right _ ?_)
  case s9 => simp only [List.cons_append, List.append_assoc, List.nil_append]
end
end T_Y1
section G_Y2a
local macro_rules | `(tactic| ktr_room) => `(tactic| exact rm0 (by assumption))
local macro_rules | `(tactic| ktr_units) => `(tactic| exact rm1 (by assumption))
local macro_rules | `(tactic| k_mem) => `(tactic| first | assumption | exact List.mem_cons_self | (refine' List.mem_cons_of_mem _ ?_; k_mem) | (refine' List.mem_append_left _ ?_; k_mem) | (refine' List.mem_append_right _ ?_; k_mem))
section T_Y2a
local macro_rules | `(tactic| walk_at "no such key 0") => `(tactic| fail)
local macro_rules | `(tactic| walk_at "no such key 1") => `(tactic| fail)
section
local macro_rules | `(tactic| k_ne) => `(tactic| ((try dsimp only); first | with_reducible assumption | exact Nat.ne_of_gt (by simp only [*]) | exact Nat.ne_of_lt (by simp only [*])))
local macro_rules | `(tactic| walk_at "exec While Compare cons nil") => `(tactic| (k_here; refine Held.of ?_))
theorem free_ok (w : World) (news : Led) (d : Addr) (o : Obj) (x : Str) (t : Tok) (hx : x = S "SYSTEM") (md : (d, o) ∈ news) (lo : (d == sysModules) = false) (hs : Obj.IsDictOf (PySem.strKind PySem.Challenge.rw_pb0356_01.row.prog w) o []) (fs : PyProof.V.FlatPairs PyData.str [] [])
   :
    Runs w 2 news 122 [.str x t, .ref d] (fun r news' => news' = news ∧ ∃ t', r = .str x t') := by
  subst hx
  unfold Runs
  w_top off
  k_fill
  intro p loose mean mg mb dp un gd cn cs a ccd cl outer A₀ base h₀ L m s Q E B F X N T hk hd hu hret
  refine wpAny_call ?_
  k_dflt ktr_enter
  repeat' (first | (k_unfold; (try dsimp only)) | (k_end; wrow_close) | ((with_reducible show wpAny _ _ (eval (Expr.Name _ _) _) _ _ _); first | (k_here; k_dflt (refine' ld ?k1 ?k2 ?_; (case k1 => k_asm); (case k2 => with_reducible assumption); k_whole))) | walk1 | (dsimp only; walk1) | (leave1; walk_say "STEP leave1"; try dsimp only) | fail "no step")
  refine Held.mk ?_
  (with_reducible rename Fr _ _ _ _ => F1)
  (with_reducible rename News _ _ _ _ => N1)
  k_dflt refine' While_inv2 (n₀ := 0) (fun _ m₁ news₁ => (∃ t', m₁ (S "found") = some (.str (S "SYSTEM") t')) ∧ m₁ (S "used") = some (.ref d) ∧ news₁ = news) F1 N1 ?J ?turn
  case J => exact ⟨⟨_, rfl⟩, rfl, rfl⟩
  case turn =>
    intro n m₁ news₁ h₁ tk₁ F₁ N₁ hJ
    obtain ⟨⟨t', g1⟩, g2, rfl⟩ := hJ
    clear F1 N1
    repeat' (first | (k_unfold; (try dsimp only)) | (k_end; wrow_close) | ((with_reducible show wpAny _ _ (eval (Expr.Name _ _) _) _ _ _); first | (k_here; k_dflt (refine' ld ?k1 ?k2 ?_; (case k1 => k_asm); (case k2 => with_reducible assumption); k_whole))) | walk1 | (dsimp only; walk1) | (leave1; walk_say "STEP leave1"; try dsimp only) | fail "no step")
    exact hret _ _ _ _ ⟨rfl, _, rfl⟩ (by assumption) (by assumption)
end
end T_Y2a
theorem lt_all0 {x : Addr} {l : Led} (h : AllLt x l) : ∀ p ∈ l, p.1 ≠ x := fun p hp => Nat.ne_of_lt (ktn_ltOf h p hp)
theorem va_stored {K : Type} [DecidableEq K] (k : K) (v : Value) : valueAt (stored [] k v) k = some v := by simp [valueAt, stored]
theorem item_any {prog : Program} {w : World} {A : Around} {E : Value → Shared → Prop} {s : Shared} {h₀ : Heap} {L d : Addr} {news : Led} {o : Obj} {kvs : List (Str × Value)} {k : Str} {t : Tok} {v : Value} {value slice : PySem.Expr} {Q : Value → Shared → Prop} (N : News h₀ L s.heap news) (hp : (d, o) ∈ news) (hd : o.IsDictOf (PySem.strKind prog w) kvs) (hl : valueAt kvs k = some v) (h : Q v { s with toks := s.toks + 1 })
    (hs : subscripted slice false (.ref d) (.str k t) = operate [.ref d, .str k t] (getItem (.ref d) (.str k t)) := by with_unfolding_all rfl) :
    wpAny (model prog w) A (subscriptTail value slice (.ref d) (.str k t)) Q E s :=
  have hD := kda_dict N hp hd
  tail_any hD.typeIs slot_dict_getitem.lookup (wpAny_getItem_of (strKind_is _ _ _ _) hD.mapOf hl h) hs
theorem nsub_c {al it us D sc sd x d : Addr × Obj} {fz : Led} : ∀ p ∈ it :: us :: al :: D :: sc :: sd :: x :: d :: fz, p ∈ us :: al :: it :: D :: sc :: sd :: x :: d :: fz := List.forall_mem_cons.mpr ⟨.tail _ (.tail _ (.head _)), List.forall_mem_cons.mpr ⟨.head _, List.forall_mem_cons.mpr ⟨.tail _ (.head _), List.forall_mem_cons.mpr ⟨.tail _ (.tail _ (.tail _ (.head _))), List.forall_mem_cons.mpr ⟨.tail _ (.tail _ (.tail _ (.tail _ (.head _)))), List.forall_mem_cons.mpr ⟨.tail _ (.tail _ (.tail _ (.tail _ (.tail _ (.head _))))), List.forall_mem_cons.mpr ⟨.tail _ (.tail _ (.tail _ (.tail _ (.tail _ (.tail _ (.head _)))))), List.forall_mem_cons.mpr ⟨.tail _ (.tail _ (.tail _ (.tail _ (.tail _ (.tail _ (.tail _ (.head _))))))), fun _ h => .tail _ (.tail _ (.tail _ (.tail _ (.tail _ (.tail _ (.tail _ (.tail _ (h))))))))⟩⟩⟩⟩⟩⟩⟩⟩
inductive NmPost (w : World) (fz : Led) (r : Value) (news' : Led) : Prop
  | mk (tl : Led) : news' = tl ++ fz → Fre tl fz → NamesO w tl r → NmPost w fz r news'
theorem names_end {w : World} {fz : Led} {us al cat sc sd x' d' : Addr} {oU oA oC oS : Obj} {nS nD : Nat} {es : List DictEntry} {t1 : Tok} {h₀ h' : Heap} {L : Addr} {m : Str → Option Value} {P : Value → Led → Heap → Nat → Prop} {tk : Nat}
    (ret : ∀ r news' h' tk', NmPost w fz r news' → Fr h₀ L h' m → News h₀ L h' news' → P r news' h' tk') (F : Fr h₀ L h' m) (N : News h₀ L h' ((us, oU) :: (al, oA) :: (cat, oC) :: (sc, W.listOf #[.ref sd] nS) :: (sd, oS) :: (x', instObj 111 d') :: (d', dictOf es nD) :: fz))
    (h1 : ∀ p ∈ fz, p.1 < us) (h2 : ∀ p ∈ fz, p.1 < al) (h3 : ∀ p ∈ fz, p.1 < cat) (h4 : ∀ p ∈ fz, p.1 < sc) (h5 : ∀ p ∈ fz, p.1 < sd) (h6 : d' < x') (h7 : ∀ p ∈ fz, p.1 < d') (lo : (sd == sysModules) = false) (hs : Obj.IsDictOf (strKind PR w) oS [])
    (g1 : getL (S "module") es = some (some (.str (S "M") t1))) (g2 : getL (S "scopes") es = some (some (.ref sc))) (g3 : getL (S "object_name") es = some none) (g4 : getL (S "is_taken") es = some none) :
    P (.ref x') ([(us, oU), (al, oA), (cat, oC), (sc, W.listOf #[.ref sd] nS), (sd, oS), (x', instObj 111 d'), (d', dictOf es nD)] ++ fz) h' tk := by
  refine ret _ _ _ _ ⟨_, rfl, ?_, ⟨x', d', es, nD, t1, sc, sd, nS, oS, rfl, ?_, ?_, g1, g2, ?_, ?_, lo, hs, g3, g4⟩⟩ F N
  · intro q hq p hp
    simp only [List.mem_cons, List.not_mem_nil, or_false] at hp
    rcases hp with rfl | rfl | rfl | rfl | rfl | rfl | rfl
    · exact Nat.ne_of_gt (h1 q hq)
    · exact Nat.ne_of_gt (h2 q hq)
    · exact Nat.ne_of_gt (h3 q hq)
    · exact Nat.ne_of_gt (h4 q hq)
    · exact Nat.ne_of_gt (h5 q hq)
    · exact Nat.ne_of_gt (Nat.lt_trans (h7 q hq) h6)
    · exact Nat.ne_of_gt (h7 q hq)
  · exact .tail _ (.tail _ (.tail _ (.tail _ (.tail _ (.head _)))))
  · exact .tail _ (.tail _ (.tail _ (.tail _ (.tail _ (.tail _ (.head _))))))
  · exact .tail _ (.tail _ (.tail _ (.head _)))
  · exact .tail _ (.tail _ (.tail _ (.tail _ (.head _))))
theorem set_sub {prog : Program} {w : World} {A : Around} {E : Value → Shared → Prop} {s : Shared} {h₀ : Heap} {L d : Addr} {m : Str → Option Value} {o : Obj} {kvs : List (Str × Value)} {k : Str} {t : Tok} {v : Value} {news rest : Led} {Q : Unit → Shared → Prop}
    (F : Fr h₀ L s.heap m) (N : News h₀ L s.heap news) (hs : ∀ p ∈ (d, o) :: rest, p ∈ news) (hne : ∀ p ∈ rest, p.1 ≠ d) (hd : o.IsDictOf (PySem.strKind prog w) kvs) (hsz : kvs.length ≤ sizeLine)
    (h : ∀ h' o', Fr h₀ L h' m → News h₀ L h' ((d, o') :: rest) → o'.IsDictOf (PySem.strKind prog w) (stored kvs k v) → Q () { s with heap := h', toks := s.toks + 1 }) : wpAny (model prog w) A (setItem (.ref d) (.str k t) v) Q E s :=
  kda_set (knd := PySem.strKind prog w) (g := fun o' => (d, o') :: rest) F (News.sub N hs) (.head hne) hd (strKind_is _ _ _ _) hsz h
theorem nsub_a {al i D l D1 us na sc sd x d b a : Addr × Obj} {fz : Led} : ∀ p ∈ al :: i :: D :: us :: sc :: sd :: x :: d :: fz, p ∈ i :: D :: l :: D1 :: us :: na :: sc :: sd :: al :: x :: d :: b :: a :: fz := List.forall_mem_cons.mpr ⟨.tail _ (.tail _ (.tail _ (.tail _ (.tail _ (.tail _ (.tail _ (.tail _ (.head _)))))))), List.forall_mem_cons.mpr ⟨.head _, List.forall_mem_cons.mpr ⟨.tail _ (.head _), List.forall_mem_cons.mpr ⟨.tail _ (.tail _ (.tail _ (.tail _ (.head _)))), List.forall_mem_cons.mpr ⟨.tail _ (.tail _ (.tail _ (.tail _ (.tail _ (.tail _ (.head _)))))), List.forall_mem_cons.mpr ⟨.tail _ (.tail _ (.tail _ (.tail _ (.tail _ (.tail _ (.tail _ (.head _))))))), List.forall_mem_cons.mpr ⟨.tail _ (.tail _ (.tail _ (.tail _ (.tail _ (.tail _ (.tail _ (.tail _ (.tail _ (.head _))))))))), List.forall_mem_cons.mpr ⟨.tail _ (.tail _ (.tail _ (.tail _ (.tail _ (.tail _ (.tail _ (.tail _ (.tail _ (.tail _ (.head _)))))))))), fun _ h => .tail _ (.tail _ (.tail _ (.tail _ (.tail _ (.tail _ (.tail _ (.tail _ (.tail _ (.tail _ (.tail _ (.tail _ (.tail _ (h)))))))))))))⟩⟩⟩⟩⟩⟩⟩⟩
theorem nsub_b {al i D us sc sd x d : Addr × Obj} {fz : Led} : ∀ p ∈ us :: al :: i :: D :: sc :: sd :: x :: d :: fz, p ∈ al :: i :: D :: us :: sc :: sd :: x :: d :: fz := List.forall_mem_cons.mpr ⟨.tail _ (.tail _ (.tail _ (.head _))), List.forall_mem_cons.mpr ⟨.head _, List.forall_mem_cons.mpr ⟨.tail _ (.head _), List.forall_mem_cons.mpr ⟨.tail _ (.tail _ (.head _)), List.forall_mem_cons.mpr ⟨.tail _ (.tail _ (.tail _ (.tail _ (.head _)))), List.forall_mem_cons.mpr ⟨.tail _ (.tail _ (.tail _ (.tail _ (.tail _ (.head _))))), List.forall_mem_cons.mpr ⟨.tail _ (.tail _ (.tail _ (.tail _ (.tail _ (.tail _ (.head _)))))), List.forall_mem_cons.mpr ⟨.tail _ (.tail _ (.tail _ (.tail _ (.tail _ (.tail _ (.tail _ (.head _))))))), fun _ h => .tail _ (.tail _ (.tail _ (.tail _ (.tail _ (.tail _ (.tail _ (.tail _ (h))))))))⟩⟩⟩⟩⟩⟩⟩⟩
section T_Y2
section
local macro_rules | `(tactic| walk_at "call ref") => `(tactic| (k_here; refine Held.of ?_))
local macro_rules | `(tactic| walk_at "subscriptTail") => `(tactic| (k_here; refine Held.of ?_))
local macro_rules | `(tactic| walk_at "setItem ref str") => `(tactic| (k_here; refine Held.of ?_))
local macro_rules | `(tactic| walk_at "exec For Name Name cons nil") => `(tactic| (k_here; (rename Fr _ _ _ _ => lF'); (with_unfolding_all refine' For_invVF lF' ?k1 ?k2 ?_; (case k1 => exact rfl); (case k2 => exact rfl); k_whole)))
local macro_rules | `(tactic| walk_at "exec For Name BinOp cons nil") => `(tactic| (k_here; (rename Fr _ _ _ _ => lF'); (with_unfolding_all refine' For_invVF lF' ?k1 ?k2 ?_; (case k1 => exact rfl); (case k2 => exact rfl); k_whole)))
local macro_rules | `(tactic| walk_at "pyIter ref") => `(tactic| (k_here; (with_reducible rename Fr _ _ _ _ => lF'); (with_reducible rename News _ _ _ _ => lN'); (with_unfolding_all refine' iter_listUnr ?hh lF' lN' ?m ?c ?d ?_; (case hh => rfl); (case m => k_mem); (case c => rfl); (case d => rfl)); intro i' l1'; (try k_lt l1')))
local macro_rules | `(tactic| walk_at "UnrEnd") => `(tactic| (refine Held.of ?_))
local macro_rules | `(tactic| k_ne) => `(tactic| (dsimp only; first | with_reducible assumption | exact Nat.ne_of_gt (by simp only [*]) | exact Nat.ne_of_lt (by simp only [*])))
local macro_rules | `(tactic| k_all) => `(tactic| exact lt_all0 (by simp only [*]))
theorem names_ok (w : World) (fz : Led) (a b : Addr) (t1 : Tok) (hab : a < b) (hbz : ∀ p ∈ fz, p.1 < a) :
    Runs w 12 ((b, W.listOf #[] 0) :: (a, W.listOf #[] 0) :: fz) 111 [.str (S "M") t1, .ref a, .ref b] (NmPost w fz) := by
  unfold Runs
  w_top off
  k_fill
  intro p loose mean mg mb dp un gd cn cs a ccd cl outer A₀ base h₀ L m s Q E B F X N T hk hd hu hret
  k_dflt (refine' call_cls ?k1 ?k2 ?k3 ?k4 ?k5 ?k6 ?_; (case k1 => k_asm); (case k2 => k_asm); (case k3 => k_asm); (case k4 => k_is); (case k5 => k_is); (case k6 => k_is); k_whole; intro x' d' h' F' N' l1 l2; (try k_lt l1); (try k_lt2 l2); (try k_sweep); k_dflt (refine' code_def ?k1 ?k2 ?k3 ?k4 ?k5 ?kA ?kF ?kK ?k6 ?k7 ?k8 ?k9 ?kB ?_ ?c2 ?c3 ?c4 ?c5; (case kA => exact rfl); (case kF => exact rfl); (case kK => first | exact rfl | assumption); (case k1 => k_asm); (case k2 => k_asm); (case k3 => k_asm); (case k4 => k_asm); (case k5 => k_asm); (case k6 => k_is); (case k7 => k_is); (case k8 => ktr_room); (case k9 => first | exact BindsTo.of_eq rfl | exact binds_K (by k_in) rfl (by k_is) rfl rfl rfl); (case c5 => decide); (case kB => exact locs rfl); (case c2 => exact rfl); (case c3 => exact rfl); (case c4 => exact rfl); k_whole; intro _ _ _ _ _ _ _ _ _; (try dsimp only); (try k_fold)))
  repeat' (first | (k_unfold; (try dsimp only)) | (k_end; wrow_close) | ((with_reducible show wpAny _ _ (call (Value.ref _) _ _) _ _ _); first | (k_here; (with_reducible show wpAny _ _ (call (Value.ref 122) _) _ _ _); k_dflt (refine' Runs.useS (free_ok _ _ _ _ _ _ ?hx ?md ?lo ?hs ?fs) (F := by k_asm) (B := by k_asm) (X := by k_asm) (T := by k_asm) (hk := by first | exact rfl | assumption) (N := ?N) (hd := ?hd) (hu := ?hu) (ret := ?_); (case N => k_asm); (case hx => exact rfl); (case md => k_mem); (case lo => with_reducible assumption); (case hs => with_reducible assumption); (case fs => with_reducible assumption); (case hd => first | (show _ + _ < _; lia) | ktr_room); (case hu => refine' room_uu 2 12 ?huh9 ?hue9 ?hux9; (case huh9 => with_reducible assumption); (case hue9 => exact rfl); (case hux9 => decide)); intro _ _ _ _ _; (try dsimp only); k_sweep))) | walk1 | (dsimp only; walk1) | (leave1; walk_say "STEP leave1"; try dsimp only) | fail "no step")
  rename_i al hq2 oA loA hsA fsA hiA fiA lA hq3 sd hq4 oS loS hsS fsS hiS fiS lS sc hq5 lC hq6 tk1 na hq7 lB hq8 hq9 us hq10 oU loU hsU fsU hiU fiU lU hq11 it1 lI1 hq12 tk2 cp cc hq13 lCp ls hq14 lLs cat hq15 lF1 lN1 lCat it lIt iO hq16 tk3 hitO F1 N1 h8 t8 F8 t8' N8
  refine Held.mk ?_
  refine set_sub F8 N8 nsub_a ?hne hsA (Nat.zero_le _) ?_
  case hne => exact List.forall_mem_cons.mpr ⟨Nat.ne_of_gt lIt.2.2.2.2.2.2.2.1, List.forall_mem_cons.mpr ⟨Nat.ne_of_gt lCat.2.2.2.2.2.2.1, List.forall_mem_cons.mpr ⟨Nat.ne_of_gt lU.2.2.2.1, List.forall_mem_cons.mpr ⟨Nat.ne_of_gt lC.2.1, List.forall_mem_cons.mpr ⟨Nat.ne_of_gt lS.1, List.forall_mem_cons.mpr ⟨Nat.ne_of_lt lA.1, List.forall_mem_cons.mpr ⟨Nat.ne_of_lt lA.2.1, fun p hp => Nat.ne_of_lt (ktn_ltOf lA.2.2.2.2 p hp)⟩⟩⟩⟩⟩⟩⟩
  intro h9 o9 F9 N9 D9
  clear N8 F8 F1 N1 lF1 lN1
  repeat' (first | (k_unfold; (try dsimp only)) | (k_end; wrow_close) | ((with_reducible show wpAny _ _ (call (Value.ref _) _ _) _ _ _); first | (k_here; (with_reducible show wpAny _ _ (call (Value.ref 122) _) _ _ _); k_dflt (refine' Runs.useS (free_ok _ _ _ _ _ _ ?hx ?md ?lo ?hs ?fs) (F := by k_asm) (B := by k_asm) (X := by k_asm) (T := by k_asm) (hk := by first | exact rfl | assumption) (N := ?N) (hd := ?hd) (hu := ?hu) (ret := ?_); (case N => k_asm); (case hx => exact rfl); (case md => k_mem); (case lo => with_reducible assumption); (case hs => with_reducible assumption); (case fs => with_reducible assumption); (case hd => first | (show _ + _ < _; lia) | ktr_room); (case hu => refine' room_uu 2 12 ?huh9 ?hue9 ?hux9; (case huh9 => with_reducible assumption); (case hue9 => exact rfl); (case hux9 => decide)); intro _ _ _ _ _; (try dsimp only); k_sweep))) | walk1 | (dsimp only; walk1) | (leave1; walk_say "STEP leave1"; try dsimp only) | fail "no step")
  refine Held.mk ?_
  refine item_any N9 (.head _) D9 (va_stored _ _) ?_
  repeat' (first | (k_unfold; (try dsimp only)) | (k_end; wrow_close) | ((with_reducible show wpAny _ _ (call (Value.ref _) _ _) _ _ _); first | (k_here; (with_reducible show wpAny _ _ (call (Value.ref 122) _) _ _ _); k_dflt (refine' Runs.useS (free_ok _ _ _ _ _ _ ?hx ?md ?lo ?hs ?fs) (F := by k_asm) (B := by k_asm) (X := by k_asm) (T := by k_asm) (hk := by first | exact rfl | assumption) (N := ?N) (hd := ?hd) (hu := ?hu) (ret := ?_); (case N => k_asm); (case hx => exact rfl); (case md => k_mem); (case lo => with_reducible assumption); (case hs => with_reducible assumption); (case fs => with_reducible assumption); (case hd => first | (show _ + _ < _; lia) | ktr_room); (case hu => refine' room_uu 2 12 ?huh9 ?hue9 ?hux9; (case huh9 => with_reducible assumption); (case hue9 => exact rfl); (case hux9 => decide)); intro _ _ _ _ _; (try dsimp only); k_sweep))) | walk1 | (dsimp only; walk1) | (leave1; walk_say "STEP leave1"; try dsimp only) | fail "no step")
  refine Held.mk ?_
  refine set_sub F9 N9 nsub_b ?hne2 hsU (Nat.zero_le _) ?_
  case hne2 => exact List.forall_mem_cons.mpr ⟨Nat.ne_of_lt lU.2.2.2.1, List.forall_mem_cons.mpr ⟨Nat.ne_of_gt lIt.2.2.2.1, List.forall_mem_cons.mpr ⟨Nat.ne_of_gt lCat.2.2.1, List.forall_mem_cons.mpr ⟨Nat.ne_of_lt lU.2.1, List.forall_mem_cons.mpr ⟨Nat.ne_of_lt lU.2.2.1, List.forall_mem_cons.mpr ⟨Nat.ne_of_lt lU.2.2.2.2.1, List.forall_mem_cons.mpr ⟨Nat.ne_of_lt lU.2.2.2.2.2.1, fun p hp => Nat.ne_of_lt (ktn_ltOf lU.2.2.2.2.2.2.2.2 p hp)⟩⟩⟩⟩⟩⟩⟩
  intro h10 o10 F10 N10 D10
  clear N9 F9
  repeat' (first | (k_unfold; (try dsimp only)) | (k_end; wrow_close) | ((with_reducible show wpAny _ _ (call (Value.ref _) _ _) _ _ _); first | (k_here; (with_reducible show wpAny _ _ (call (Value.ref 122) _) _ _ _); k_dflt (refine' Runs.useS (free_ok _ _ _ _ _ _ ?hx ?md ?lo ?hs ?fs) (F := by k_asm) (B := by k_asm) (X := by k_asm) (T := by k_asm) (hk := by first | exact rfl | assumption) (N := ?N) (hd := ?hd) (hu := ?hu) (ret := ?_); (case N => k_asm); (case hx => exact rfl); (case md => k_mem); (case lo => with_reducible assumption); (case hs => with_reducible assumption); (case fs => with_reducible assumption); (case hd => first | (show _ + _ < _; lia) | ktr_room); (case hu => refine' room_uu 2 12 ?huh9 ?hue9 ?hux9; (case huh9 => with_reducible assumption); (case hue9 => exact rfl); (case hux9 => decide)); intro _ _ _ _ _; (try dsimp only); k_sweep))) | walk1 | (dsimp only; walk1) | (leave1; walk_say "STEP leave1"; try dsimp only) | fail "no step")
  refine Held.mk ?_
  refine UnrEnd.intro F10 N10 _ nsub_c ?off1 ⟨.tail _ (.tail _ (.head _)), ?_⟩
  case off1 => exact List.forall_mem_cons.mpr ⟨Nat.ne_of_lt lIt.2.2.2.1, List.forall_mem_cons.mpr ⟨Nat.ne_of_lt lIt.2.2.2.2.2.2.2.1, List.forall_mem_cons.mpr ⟨Nat.ne_of_lt lIt.1, List.forall_mem_cons.mpr ⟨Nat.ne_of_lt lIt.2.2.2.2.2.1, List.forall_mem_cons.mpr ⟨Nat.ne_of_lt lIt.2.2.2.2.2.2.1, List.forall_mem_cons.mpr ⟨Nat.ne_of_lt lIt.2.2.2.2.2.2.2.2.1, List.forall_mem_cons.mpr ⟨Nat.ne_of_lt lIt.2.2.2.2.2.2.2.2.2.1, fun p hp => Nat.ne_of_lt (ktn_ltOf lIt.2.2.2.2.2.2.2.2.2.2.2.2 p hp)⟩⟩⟩⟩⟩⟩⟩
  clear N10 F10
  repeat' (first | (k_unfold; (try dsimp only)) | (k_end; wrow_close) | ((with_reducible show wpAny _ _ (call (Value.ref _) _ _) _ _ _); first | (k_here; (with_reducible show wpAny _ _ (call (Value.ref 122) _) _ _ _); k_dflt (refine' Runs.useS (free_ok _ _ _ _ _ _ ?hx ?md ?lo ?hs ?fs) (F := by k_asm) (B := by k_asm) (X := by k_asm) (T := by k_asm) (hk := by first | exact rfl | assumption) (N := ?N) (hd := ?hd) (hu := ?hu) (ret := ?_); (case N => k_asm); (case hx => exact rfl); (case md => k_mem); (case lo => with_reducible assumption); (case hs => with_reducible assumption); (case fs => with_reducible assumption); (case hd => first | (show _ + _ < _; lia) | ktr_room); (case hu => refine' room_uu 2 12 ?huh9 ?hue9 ?hux9; (case huh9 => with_reducible assumption); (case hue9 => exact rfl); (case hux9 => decide)); intro _ _ _ _ _; (try dsimp only); k_sweep))) | walk1 | (dsimp only; walk1) | (leave1; walk_say "STEP leave1"; try dsimp only) | fail "no step")
  rename_i hE tkE FE NE kF kN TcE kXE
  refine names_end (t1 := t1) (P := fun r _ h' tk' => Q r { s with heap := h', toks := tk' }) hret kF kN (ktn_ltOf lU.2.2.2.2.2.2.2.2) (ktn_ltOf lA.2.2.2.2) (ktn_ltOf lCat.2.2.2.2.2.2.2.2.2.2.2) (ktn_ltOf lC.2.2.2.2.2.2) (ktn_ltOf lS.2.2.2.2.2) l2 (ktn_ltOf l1.2.2) loS hsS ?g1 ?g2 ?g3 ?g4
  case g1 => exact rfl
  case g2 => exact rfl
  case g3 => exact rfl
  case g4 => exact rfl
end
end T_Y2
end G_Y2a
section T_M4
noncomputable def AllS (ws : List Str) : Prop := ∀ x ∈ ws, PyData.strOk x = true
theorem AllS.suf {a b : List Str} (h : AllS b) (s : a <:+ b) : AllS a := fun x hx => h x (s.subset hx)
theorem AllS.tl {b : List Str} (h : AllS b) : AllS b.tail := h.suf (tl_suf b)
theorem AllS.hd {b : List Str} (h : AllS b) : PyData.strOk (fw b) = true := by
  cases b with
  | nil => decide +kernel
  | cons x b => exact h x (.head _)
theorem AllS.cons {x : Str} {b : List Str} (hx : PyData.strOk x = true) (h : AllS b) : AllS (x :: b) := List.forall_mem_cons.mpr ⟨hx, h⟩
theorem AllS.app {a b : List Str} (ha : AllS a) (h : AllS b) : AllS (a ++ b) := List.forall_mem_append.mpr ⟨ha, h⟩
theorem AllS.nil : AllS [] := fun _ h => nomatch h
theorem ok_str {x : Str} (n : Nat) (h : PyData.strOk x = true) : kqdOk n (.str x) = true := by cases n <;> exact h
theorem ok_none (n : Nat) : kqdOk n .none = true := by cases n <;> rfl
theorem ok_list {n : Nat} {ds : List Dat} (h : ∀ d ∈ ds, kqdOk n d = true) : kqdOk (n + 1) (.list ds) = true := List.all_eq_true.mpr h
theorem ok_up : ∀ {n m : Nat} {d : Dat}, n ≤ m → kqdOk n d = true → kqdOk m d = true := by
  intro n
  induction n with
  | zero =>
    intro m d _ h
    cases d with
    | none => exact ok_none m
    | int i => cases m <;> rfl
    | str x => exact ok_str m h
    | _ => cases h
  | succ n ih =>
    intro m d q h
    obtain ⟨m, rfl⟩ : ∃ k, m = k + 1 := ⟨m - 1, (Nat.sub_add_cancel (Nat.le_trans (Nat.le_add_left _ _) q)).symm⟩
    cases d with
    | none => exact ok_none _
    | int i => rfl
    | str x => exact ok_str _ h
    | list ds => exact List.all_eq_true.mpr fun d hd => ih (Nat.le_of_succ_le_succ q) (List.all_eq_true.mp h d hd)
    | tuple ds => exact List.all_eq_true.mpr fun d hd => ih (Nat.le_of_succ_le_succ q) (List.all_eq_true.mp h d hd)
    | _ => cases h
noncomputable def wtk : Tk → Nat
  | .lb => 2 | .nt => 1 | .minus => 1 | .mul => 1 | .plus => 1 | .rel => 1 | .dots => 1 | _ => 0
noncomputable def wt (x : Str) : Nat := wtk (cls x)
noncomputable def W8 : List Str → Nat
  | [] => 0
  | x :: ws => wt x + W8 ws
theorem W8_app (a b : List Str) : W8 (a ++ b) = W8 a + W8 b := by
  induction a with
  | nil => exact (Nat.zero_add _).symm
  | cons x a ih => show wt x + W8 (a ++ b) = wt x + W8 a + W8 b; rw [ih, Nat.add_assoc]
theorem W8_suffix {a b : List Str} (h : a <:+ b) : W8 a ≤ W8 b := by obtain ⟨p, rfl⟩ := h; rw [W8_app]; exact Nat.le_add_left _ _
theorem wt_of {x : Str} {k : Tk} (h : cls x = k) : wt x = wtk k := congrArg wtk h
theorem W8_le (ws : List Str) : W8 ws.tail ≤ W8 ws := W8_suffix (tl_suf ws)
theorem W8_t {ws : List Str} {k : Tk} (c : cls (fw ws) = k) (h : k ≠ .eof) : W8 ws = wtk k + W8 ws.tail := by
  cases ws with
  | nil => exact absurd ((cls_eof.mpr rfl).symm.trans c).symm h
  | cons x r => exact congrArg (· + W8 r) (wt_of c)
/-- a run's data is of texts and lists, and no deeper than the weight of what it ate -/
noncomputable def dp1 (c : Nat) (ws : List Str) (d : Dat) (us : List Str) : Prop := AllS ws → ∃ n, n + W8 us ≤ W8 ws + c ∧ kqdOk n d = true
noncomputable def dp2 (e : Dat) (ws : List Str) (d : Dat) (us : List Str) : Prop := AllS ws → ∀ a, kqdOk a e = true → ∃ n, n + W8 us ≤ W8 ws + a ∧ kqdOk n d = true
noncomputable def Kd.Dp : Run
  | .piece => dp1 1
  | .termR e => dp2 e
  | .sumR e => dp2 e
  | .set acc => fun ws d us => AllS ws → ∀ a, 1 ≤ a → (∀ p ∈ acc, kqdOk a p = true) → ∃ n, n + W8 us ≤ W8 ws + a + 1 ∧ kqdOk n d = true
  | _ => dp1 0
theorem q1 {n U T W : Nat} (h : n + U ≤ T) (e : W = 1 + T) : n + 1 + U ≤ W := by
  rw [e, Nat.add_right_comm, Nat.add_comm 1]; exact Nat.succ_le_succ h
theorem qm {a n U T W : Nat} (h1 : 1 ≤ a) (q : n + U ≤ W + 1) (hT : T ≤ U) (hU : U ≤ W) : T + max a n + 1 ≤ W + a + 1 := by
  refine Nat.succ_le_succ ?_
  rcases Nat.le_total a n with h | h
  · rw [Nat.max_eq_right h, Nat.add_comm]; exact Nat.le_trans (Nat.add_le_add_left hT n) (Nat.le_trans q (Nat.add_le_add_left h1 W))
  · rw [Nat.max_eq_left h]; exact Nat.add_le_add_right (Nat.le_trans hT hU) a
theorem q2 {n1 n2 U T V W : Nat} (h : n1 + U ≤ W) (e : U = 1 + T) (q : n2 + V ≤ T) : n1 + n2 + 1 + V ≤ W := by
  rw [Nat.add_assoc n1, Nat.add_assoc n1]; exact Nat.le_trans (Nat.add_le_add_left (q1 q e) n1) h
theorem q3 {a n U T W X : Nat} (q : X ≤ U + (a + n + 1)) (h : n + U ≤ T) (e : W = 1 + T) : X ≤ W + a := by
  refine Nat.le_trans q ?_
  rw [Nat.add_assoc a, Nat.add_left_comm, Nat.add_comm W, Nat.add_comm U]; exact Nat.add_le_add_left (q1 h e) a
theorem ok_mk3 {x : Str} {d e : Dat} {a n : Nat} (hx : PyData.strOk x = true) (hd : kqdOk a d = true) (he : kqdOk n e = true) : kqdOk (a + n + 1) (mk3 x d e) = true := by
  by_cases h : e = .none
  · subst h; exact ok_none _
  · rw [mk3_ne h]
    exact ok_list (List.forall_mem_cons.mpr ⟨ok_str _ hx, List.forall_mem_cons.mpr ⟨ok_up (Nat.le_add_right _ _) hd, fun _ m => List.mem_singleton.mp m ▸ ok_up (Nat.le_add_left _ _) he⟩⟩)
theorem ok_two {x : Str} {d : Dat} {n : Nat} (hx : PyData.strOk x = true) (hd : kqdOk n d = true) : kqdOk (n + 1) (.list [.str x, d]) = true :=
  ok_list (List.forall_mem_cons.mpr ⟨ok_str _ hx, fun _ m => List.mem_singleton.mp m ▸ hd⟩)
theorem lit_ok : PyData.strOk (S "~") = true ∧ PyData.strOk (S "-") = true ∧ PyData.strOk (S "{") = true ∧ PyData.strOk (S "one") = true ∧ PyData.strOk (S "..") = true ∧ PyData.strOk (S "(") = true ∧ PyData.strOk (S ")") = true ∧ PyData.strOk (S "}") = true ∧ PyData.strOk (S ",") = true := by decide +kernel
theorem Rd.dp {k ws d us} (h : Rd k ws d us) : k.Dp ws d us := by
  obtain ⟨l1, l2, l3, l4, l5, _⟩ := lit_ok
  have non {ws us : List Str} {c : Nat} (s : us <:+ ws) : ∃ n, n + W8 us ≤ W8 ws + c ∧ kqdOk n .none = true := ⟨0, by rw [Nat.zero_add]; exact Nat.le_trans (W8_suffix s) (Nat.le_add_right _ _), rfl⟩
  have stop {e : Dat} {ws : List Str} : dp2 e ws e ws := fun _ a k => ⟨a, Nat.le_of_eq (Nat.add_comm _ _), k⟩
  have seq {d d' : Dat} {ws us us2 : List Str} (r : us <:+ ws) (i1 : dp1 0 ws d us) (i2 : dp2 d us d' us2) : dp1 0 ws d' us2 := fun s => by
    obtain ⟨n, h, o⟩ := i1 s
    obtain ⟨m, q, o2⟩ := i2 (s.suf r) n o
    rw [Nat.add_comm (W8 us)] at q
    exact ⟨m, Nat.le_trans q h, o2⟩
  have more {k : Tk} {ws us us2 : List Str} {d e d' : Dat} (c : cls (fw ws) = k) (hk : k ≠ .eof) (w : wtk k = 1) (r : us <:+ ws.tail) (i1 : dp1 0 ws.tail e us) (i2 : dp2 (mk3 (fw ws) d e) us d' us2) : dp2 d ws d' us2 := fun s a ka => by
    obtain ⟨n, h, o⟩ := i1 s.tl
    obtain ⟨m, q, o2⟩ := i2 (s.tl.suf r) _ (ok_mk3 s.hd ka o)
    exact ⟨m, q3 q h (w ▸ W8_t c hk), o2⟩
  refine Rd.elim (P := Kd.Dp) ?nt ?lp (fun _ r _ _ => non (r.suffix.trans (tl_suf _))) ?lb (fun _ s => ⟨0, by rw [Nat.zero_add]; exact W8_le _, s.hd⟩) (fun _ => non (List.suffix_refl _)) ?setEnd (fun _ a _ _ => non (c := a + 1) (List.suffix_refl _)) ?setComma ?setLast (fun r _ _ a _ _ => non (c := a + 1) r.suffix)
    ?pRange ?pOne (fun r i j => seq r.suffix i j) stop (fun c r i j => more c (by decide) rfl r.suffix i j) (fun i => i) ?neg (fun r i j => seq r.suffix i j) stop (fun c r i j => c.elim (fun c => more c (by decide) rfl r.suffix i j) fun c => more c (by decide) rfl r.suffix i j) (fun i => i) ?rel1 h
  case nt =>
    intro ws d us c _ i s
    obtain ⟨n, h, o⟩ := i s.tl
    exact ⟨n + 1, q1 h (W8_t c (by decide)), ok_two l1 o⟩
  case lp =>
    intro ws d us c _ _ i s
    obtain ⟨n, h, o⟩ := i s.tl
    exact ⟨n, Nat.le_trans (Nat.add_le_add_left (W8_le us) n) (Nat.le_trans h (W8_le ws)), o⟩
  case lb =>
    intro ws d us c _ i s
    obtain ⟨n, h, o⟩ := i s.tl 1 (Nat.le_refl _) (fun _ h => nomatch h)
    exact ⟨n, by rw [W8_t c (by decide), Nat.add_comm (wtk _)]; exact h, o⟩
  case setEnd => exact fun c s a _ k => ⟨a + 1, Nat.le_trans (Nat.add_le_add_left (W8_le _) (a + 1)) (Nat.le_of_eq (Nat.add_comm (a + 1) _)), ok_list (List.forall_mem_cons.mpr ⟨ok_str _ l3, k⟩)⟩
  case setComma =>
    intro ws p us acc d us2 r c _ i j s a h1 k
    obtain ⟨n, q, o⟩ := i s
    obtain ⟨m, q', o'⟩ := j (s.suf r.suffix).tl (max a n) (Nat.le_trans h1 (Nat.le_max_left _ _)) (List.forall_mem_append.mpr ⟨fun p hp => ok_up (Nat.le_max_left _ _) (k p hp), fun _ m => List.mem_singleton.mp m ▸ ok_up (Nat.le_max_right _ _) o⟩)
    exact ⟨m, Nat.le_trans q' (qm h1 q (W8_le us) (W8_suffix r.suffix)), o'⟩
  case setLast =>
    intro ws p us acc r c i s a h1 k
    obtain ⟨n, q, o⟩ := i s
    exact ⟨max a n + 1, by rw [Nat.add_comm]; exact qm h1 q (W8_le us) (W8_suffix r.suffix), ok_list (List.forall_mem_cons.mpr ⟨ok_str _ l3, List.forall_mem_append.mpr ⟨fun p hp => ok_up (Nat.le_max_left _ _) (k p hp), fun _ m => List.mem_singleton.mp m ▸ ok_up (Nat.le_max_right _ _) o⟩⟩)⟩
  case pRange =>
    intro ws d us e us2 r c _ i j s
    obtain ⟨n, h, o⟩ := i s
    obtain ⟨m, q, o2⟩ := j (s.suf r.suffix).tl
    exact ⟨n + m + 1, Nat.le_succ_of_le (q2 h (W8_t c (by decide)) q), ok_list (List.forall_mem_cons.mpr ⟨ok_str _ l5, List.forall_mem_cons.mpr ⟨ok_up (Nat.le_add_right _ _) o, fun _ m => List.mem_singleton.mp m ▸ ok_up (Nat.le_add_left _ _) o2⟩⟩)⟩
  case pOne =>
    intro ws d us i s
    obtain ⟨n, h, o⟩ := i s
    exact ⟨n + 1, by rw [Nat.add_right_comm]; exact Nat.succ_le_succ h, ok_two l4 o⟩
  case neg =>
    intro ws d us c i s
    obtain ⟨n, h, o⟩ := i s.tl
    refine ⟨n + 1, q1 h (W8_t c (by decide)), ?_⟩
    by_cases hd : d = .none
    · subst hd; rfl
    · rw [mk2_ne hd]; exact ok_two l2 o
  case rel1 =>
    intro ws d us e us2 r c i j s
    obtain ⟨n, h, o⟩ := i s
    obtain ⟨m, q, o2⟩ := j (s.suf r.suffix).tl
    exact ⟨n + m + 1, q2 h (W8_t c (by decide)) q, ok_mk3 (s.suf r.suffix).hd o o2⟩
/-- data of texts and lists, not too deep -/
noncomputable def Fit (d : Dat) : Prop := ∃ n, n ≤ 64 ∧ kqdOk n d = true
theorem Fit.reads {h₀ h : Heap} {L : Addr} {led : Led} (N : News h₀ L h led) {v : Value} {d : Dat} (D : DatIn led v d) (f : Fit d) : ∃ as, Reads h v (kqdP d) as := by
  obtain ⟨n, _, o⟩ := f; exact kqd_in N n D o
theorem Fit.shaped {d : Dat} (f : Fit d) : PySem.SeqAt.shaped (kqdP d) = true := by
  obtain ⟨n, h, o⟩ := f
  have q := kqd_lay n d o
  unfold PySem.SeqAt.shaped
  rw [q.1]; exact decide_eq_true (Nat.le_trans q.2 h)
theorem Fit.eqv {d e : Dat} (f : Fit d) (g : Fit e) : PyData.eqv (kqdP d) (kqdP e) = true ↔ d = e := by
  obtain ⟨n, _, o⟩ := f
  obtain ⟨m, _, o'⟩ := g
  exact kqd_eqv n d e m o o'
end T_M4
section T_M5
theorem bin_ok : ∀ p ∈ binTab, PyData.strOk p.2 = true ∧ wt p.2 = 1 := by decide +kernel
theorem par_all (b : Bool) {ws : List Str} (h : AllS ws) : AllS (par b ws) := by
  cases b with
  | false => exact h
  | true => exact .cons lit_ok.2.2.2.2.2.1 (h.app (.cons lit_ok.2.2.2.2.2.2.1 .nil))
theorem wd_ok : ∀ (T : Tm) (l : Nat), T.Good → AllS (T.wd l) := by
  obtain ⟨l1, l2, l3, l4, l5, l6, l7, l8, l9⟩ := lit_ok
  intro T
  induction T with
  | leaf x => exact fun l g => .cons g.2.2.2 .nil
  | neg a ih => exact fun l g => par_all _ (.cons l2 (ih 3 g))
  | nt a ih => exact fun l g => .cons l1 (ih 4 g)
  | bin o a b i1 i2 => exact fun l g => par_all _ ((i1 _ g.2.1).app (.cons (g.1.elim fun _ h => (bin_ok _ h).1) (i2 _ g.2.2)))
  | set0 => exact fun l g => .cons l3 (.cons l8 .nil)
  | set1 p ih => exact fun l g => .cons l3 ((ih 0 g).app (.cons l8 .nil))
  | set2 p q i1 i2 => exact fun l g => .cons l3 ((i1 0 g.1).app (.cons l9 ((i2 0 g.2).app (.cons l8 .nil))))
  | one a ih => exact fun l g => ih 1 g
  | rng a b i1 i2 => exact fun l g => (i1 1 g.1).app (.cons l5 (i2 1 g.2))
theorem strOk_app {a b : Str} (ha : PyData.strOk a = true) (hb : PyData.strOk b = true) : PyData.strOk (a ++ b) = true := by
  unfold PyData.strOk at *
  show (a.cps ++ b.cps).all _ = true
  rw [Array.all_append, ha, hb]; rfl
theorem tx_ok : ∀ (T : Tm) (l : Nat), T.Good → PyData.strOk (T.tx l) = true := by
  have q : PyData.strOk (S "(") = true ∧ PyData.strOk (S ")") = true ∧ PyData.strOk (S " ") = true ∧ PyData.strOk (S "-") = true ∧ PyData.strOk (S "~") = true ∧ PyData.strOk (S "{") = true ∧ PyData.strOk (S "}") = true ∧ PyData.strOk (S ", ") = true ∧ PyData.strOk (S "..") = true ∧ PyData.strOk (S "") = true := by decide +kernel
  obtain ⟨q1, q2, q3, q4, q5, q6, q7, q8, q9, q10⟩ := q
  have P (b : Bool) {x : Str} (h : PyData.strOk x = true) : PyData.strOk (parS b x) = true := by
    cases b with
    | false => exact h
    | true => exact strOk_app (strOk_app q1 h) q2
  intro T
  induction T with
  | leaf x => exact fun l g => g.2.2.2
  | neg a ih => exact fun l g => P _ (strOk_app q4 (ih 3 g))
  | nt a ih => exact fun l g => strOk_app q5 (ih 4 g)
  | bin o a b i1 i2 => exact fun l g => P _ (strOk_app (strOk_app (strOk_app (strOk_app (i1 _ g.2.1) q3) (g.1.elim fun _ h => (bin_ok _ h).1)) q3) (i2 _ g.2.2))
  | set0 => exact fun l g => strOk_app (strOk_app q6 q10) q7
  | set1 p ih => exact fun l g => strOk_app (strOk_app q6 (ih 0 g)) q7
  | set2 p q i1 i2 => exact fun l g => strOk_app (strOk_app q6 (strOk_app (strOk_app (i1 0 g.1) q8) (i2 0 g.2))) q7
  | one a ih => exact fun l g => ih 1 g
  | rng a b i1 i2 => exact fun l g => strOk_app (strOk_app (i1 1 g.1) q9) (i2 1 g.2)
/-- sums of the words' weights -/
noncomputable def sm (f : Str → Nat) : List Str → Nat
  | [] => 0
  | x :: ws => f x + sm f ws
theorem sm_app (f : Str → Nat) (a b : List Str) : sm f (a ++ b) = sm f a + sm f b := by
  induction a with
  | nil => exact (Nat.zero_add _).symm
  | cons x a ih => show f x + sm f (a ++ b) = f x + sm f a + sm f b; rw [ih, Nat.add_assoc]
/-- a bound of the words' weights by the count c of the tree's parts, where a piece of a set may weigh e more -/
structure Wts (f : Str → Nat) (c : Tm → Nat) (k e : Nat) : Prop where
  leaf : ∀ x, cls x = .word → f x ≤ k * c (.leaf x)
  par : f (S "(") + f (S ")") + f (S "-") ≤ k
  nt : f (S "~") ≤ k
  bin : ∀ p ∈ binTab, f (S "(") + f (S ")") + f p.2 ≤ k
  set0 : f (S "{") + f (S "}") ≤ k
  set1 : e + (f (S "{") + f (S "}")) ≤ k
  set2 : e + e + (f (S "{") + (f (S ",") + f (S "}"))) ≤ k
  one : ∀ a, k * c a ≤ k * c (.one a) + e
  rng : ∀ a b, k * c a + (f (S "..") + k * c b) ≤ k * c (.rng a b) + e
  c1 : ∀ a, c (.neg a) = c a + 1
  c2 : ∀ a, c (.nt a) = c a + 1
  c3 : ∀ o a b, c (.bin o a b) = c a + c b + 1
  c4 : c .set0 = 1
  c5 : ∀ a, c (.set1 a) = c a + 1
  c6 : ∀ a b, c (.set2 a b) = c a + c b + 1
theorem sm_par {f : Str → Nat} (b : Bool) (ws : List Str) : sm f (par b ws) ≤ f (S "(") + f (S ")") + sm f ws := by
  cases b with
  | false => exact Nat.le_add_left _ _
  | true =>
    show f (S "(") + sm f (ws ++ [S ")"]) ≤ _
    rw [sm_app, Nat.add_comm (sm f ws), ← Nat.add_assoc]; exact Nat.le_refl _
theorem n3 {x y A K k : Nat} (h : A ≤ K) (w : x + y ≤ k) : x + (y + A) ≤ K + k := by rw [← Nat.add_assoc, Nat.add_comm]; exact Nat.add_le_add h w
theorem n5 {P K e x k : Nat} (h : P ≤ K + e) (w : e + x ≤ k) : P + x ≤ K + k := Nat.le_trans (Nat.add_le_add_right h x) (by rw [Nat.add_assoc]; exact Nat.add_le_add_left w K)
theorem sm_wd {f : Str → Nat} {c : Tm → Nat} {k e : Nat} (W : Wts f c k e) : ∀ (T : Tm) (b : Bool), T.Wf b → T.Good → ∀ l, sm f (T.wd l) ≤ k * c T + (bif b then e else 0) := by
  refine Tm.ind (P := fun b T => T.Good → ∀ l, sm f (T.wd l) ≤ k * c T + (bif b then e else 0)) ?_ ?_ ?_ ?_ ?_ ?_ ?_ ?_ ?_
  · exact fun x w _ l => W.leaf x w
  · intro a _ i g l
    rw [W.c1]
    show _ ≤ k * c a + k
    exact Nat.le_trans (sm_par (decide (2 < l)) (S "-" :: a.wd 3)) (n3 (i g 3) W.par)
  · intro a _ i g l
    rw [W.c2]
    show f _ + _ ≤ k * c a + k
    rw [Nat.add_comm]; exact Nat.add_le_add (i g 4) W.nt
  · intro o a b _ _ _ i j g l
    obtain ⟨⟨op, ho⟩, ga, gb⟩ := g
    rw [W.c3]
    refine Nat.le_trans (sm_par (decide (bl o < l)) (a.wd (loL o) ++ o :: b.wd (hiL o))) ?_
    rw [sm_app]
    show _ + (_ + (f o + _)) ≤ k * (c a + c b) + k
    rw [Nat.add_left_comm (sm f (a.wd (loL o))), Nat.mul_add]
    exact n3 (Nat.add_le_add (i ga _) (j gb _)) (W.bin _ ho)
  · intro _ l
    rw [W.c4, Nat.mul_one]
    exact W.set0
  · intro p _ i g l
    rw [W.c5]
    show f _ + sm f (p.wd 0 ++ [_]) ≤ k * c p + k
    rw [sm_app, Nat.add_left_comm]
    exact n5 (i g 0) W.set1
  · intro p q _ _ i j g l
    rw [W.c6]
    show f _ + sm f (p.wd 0 ++ _ :: (q.wd 0 ++ [_])) ≤ k * (c p + c q) + k
    rw [sm_app, Nat.mul_add]
    show _ + (_ + (f _ + sm f (q.wd 0 ++ [_]))) ≤ _
    rw [sm_app, Nat.add_left_comm (f (S ",")), Nat.add_left_comm (f (S "{")), Nat.add_left_comm (f (S "{")), ← Nat.add_assoc]
    exact n5 (by rw [Nat.add_add_add_comm]; exact Nat.add_le_add (i g.1 0) (j g.2 0)) W.set2
  · exact fun a _ i g l => Nat.le_trans (i g 1) (W.one a)
  · intro a b _ _ i j g l
    show sm f (a.wd 1 ++ _ :: b.wd 1) ≤ _
    rw [sm_app]
    exact Nat.le_trans (Nat.add_le_add (i g.1 1) (Nat.add_le_add_left (j g.2 1) _)) (W.rng a b)
theorem sm_len (ws : List Str) : sm (fun _ => 1) ws = ws.length := by
  induction ws with
  | nil => rfl
  | cons x ws ih => show 1 + _ = _ + 1; rw [ih, Nat.add_comm]
theorem wd_len {T : Tm} (w : T.Wf false) (g : T.Good) (l : Nat) : (T.wd l).length ≤ 3 * T.sz := by
  rw [← sm_len]
  refine sm_wd (f := fun _ => 1) (c := Tm.sz) (k := 3) (e := 0) ⟨fun _ _ => (by decide : 1 ≤ 3 * 1), by decide, by decide, fun _ _ => by decide, by decide, by decide, by decide, fun a => Nat.mul_le_mul_left 3 (Nat.le_succ _), fun a b => ?_, fun _ => rfl, fun _ => rfl, fun _ _ _ => rfl, rfl, fun _ => rfl, fun _ _ => rfl⟩ T false w g l
  show _ ≤ 3 * (a.sz + b.sz) + 3
  rw [Nat.add_left_comm, Nat.mul_add, Nat.add_comm]; exact Nat.add_le_add_left (by decide) _
end T_M5
section T_M6
theorem W8_cons (x : Str) (ws : List Str) : W8 (x :: ws) = wt x + W8 ws := rfl
theorem sm_W8 (ws : List Str) : sm wt ws = W8 ws := by
  induction ws with
  | nil => rfl
  | cons x ws ih => exact congrArg (wt x + ·) ih
theorem W8_wd {T : Tm} (w : T.Wf false) (g : T.Good) (l : Nat) : W8 (T.wd l) ≤ 4 * T.ops := by
  rw [← sm_W8]
  refine sm_wd (f := wt) (c := Tm.ops) (k := 4) (e := 1) ⟨fun x h => Nat.le_of_eq (wt_of h), by decide +kernel, by decide +kernel, by decide +kernel, by decide +kernel, by decide +kernel, by decide +kernel, fun a => Nat.le_add_right _ _, fun a b => ?_, fun _ => rfl, fun _ => rfl, fun _ _ _ => rfl, rfl, fun _ => rfl, fun _ _ => rfl⟩ T false w g l
  show _ ≤ 4 * (a.ops + b.ops) + 1
  rw [Nat.add_left_comm, Nat.mul_add, Nat.add_comm]; exact Nat.add_le_add_left (by decide +kernel) _
noncomputable def nst (x : Str) : Nat := if cls x == .nt || cls x == .lp || cls x == .lb then 1 else 0
theorem nest_c (x : Str) (ws : List Str) : nest (x :: ws) = nst x + nest ws := by
  unfold nest nst; rw [List.countP_cons, Nat.add_comm]
theorem sm_nest (ws : List Str) : sm nst ws = nest ws := by
  induction ws with
  | nil => rfl
  | cons x ws ih => rw [nest_c]; exact congrArg (nst x + ·) ih
theorem nest_app (a b : List Str) : nest (a ++ b) = nest a + nest b := by unfold nest; rw [List.countP_append]
theorem nest_wd {T : Tm} (w : T.Wf false) (g : T.Good) (l : Nat) : nest (T.wd l) ≤ 2 * T.ops := by
  rw [← sm_nest]
  refine sm_wd (f := nst) (c := Tm.ops) (k := 2) (e := 0) ⟨fun x h => Nat.le_of_eq (by unfold nst; rw [h]; rfl), by decide +kernel, by decide +kernel, by decide +kernel, by decide +kernel, by decide +kernel, by decide +kernel, fun a => Nat.le_refl _, fun a b => ?_, fun _ => rfl, fun _ => rfl, fun _ _ _ => rfl, rfl, fun _ => rfl, fun _ _ => rfl⟩ T false w g l
  show _ ≤ 2 * (a.ops + b.ops) + 0
  rw [Nat.add_left_comm, Nat.mul_add, Nat.add_comm]; exact Nat.add_le_add_left (by decide +kernel) _
theorem whole_due {T : Tm} {d : Dat} (w : T.Wf false) (h : Whole (T.wd 1) d) : d = T.pl := by
  obtain ⟨e, us, r, hd⟩ := h
  obtain ⟨rfl, rfl⟩ := (reads_back w).det r
  exact hd
theorem whole_less {T : Tm} {ws : List Str} {d : Dat} (w : T.Wf false) (hc : cnt ws < cnt (T.wd 1)) (h : Whole ws d) : d ≠ T.pl := by
  obtain ⟨e, us, r, hd⟩ := h
  cases us with
  | nil => exact fun q => not_less w hc (hd.symm.trans q ▸ r)
  | cons x r' => exact fun q => T.pl_ne (q.symm.trans hd)
theorem whole_fit {ws : List Str} {d : Dat} (a : AllS ws) (z : W8 ws ≤ 64) (h : Whole ws d) : Fit d := by
  obtain ⟨e, us, r, hd⟩ := h
  obtain ⟨n, q, o⟩ := r.dp a
  cases us with
  | nil => exact ⟨n, Nat.le_trans q z, hd ▸ o⟩
  | cons x r' => exact ⟨0, Nat.zero_le _, hd ▸ rfl⟩
/-- the depth of open brackets along the words -/
noncomputable def runB : Nat → List Str → Option Nat
  | n, [] => some n
  | n, x :: r => if x = S "(" then runB (n + 1) r else if x = S ")" then (match n with | 0 => none | k + 1 => runB k r) else runB n r
theorem brk_ne : S ")" ≠ S "(" := by decide +kernel
theorem runB_lp (n : Nat) (r : List Str) : runB n (S "(" :: r) = runB (n + 1) r := if_pos rfl
theorem runB_rp (n : Nat) (r : List Str) : runB (n + 1) (S ")" :: r) = runB n r := (if_neg brk_ne).trans (if_pos rfl)
theorem runB_oth {x : Str} (h1 : x ≠ S "(") (h2 : x ≠ S ")") (n : Nat) (r : List Str) : runB n (x :: r) = runB n r := (if_neg h1).trans (if_neg h2)
theorem cls_oth {x : Str} (h : cls x ≠ .lp ∧ cls x ≠ .rp) (n : Nat) (r : List Str) : runB n (x :: r) = runB n r := runB_oth (fun e => h.1 (cls_lp.mpr e)) (fun e => h.2 (cls_rp.mpr e)) n r
theorem cls_lits : (cls (S "-") ≠ .lp ∧ cls (S "-") ≠ .rp) ∧ (cls (S "~") ≠ .lp ∧ cls (S "~") ≠ .rp) ∧ (cls (S "{") ≠ .lp ∧ cls (S "{") ≠ .rp) ∧ (cls (S "}") ≠ .lp ∧ cls (S "}") ≠ .rp) ∧ (cls (S ",") ≠ .lp ∧ cls (S ",") ≠ .rp) ∧ (cls (S "..") ≠ .lp ∧ cls (S "..") ≠ .rp) := by decide +kernel
/-- words that leave the depth as it was -/
noncomputable def Bal (ws : List Str) : Prop := ∀ n r, runB n (ws ++ r) = runB n r
theorem Bal.nil : Bal [] := fun _ _ => rfl
theorem Bal.cons {x : Str} {ws : List Str} (h : cls x ≠ .lp ∧ cls x ≠ .rp) (b : Bal ws) : Bal (x :: ws) := fun n r => (cls_oth h n _).trans (b n r)
theorem Bal.app {a b : List Str} (h : Bal a) (k : Bal b) : Bal (a ++ b) := fun n r => by rw [List.append_assoc, h]; exact k n r
theorem Bal.par {ws : List Str} (b : Bool) (h : Bal ws) : Bal (par b ws) := fun n r => by
  cases b with
  | false => exact h n r
  | true =>
    show runB n (S "(" :: (ws ++ [S ")"] ++ r)) = _
    rw [runB_lp, List.append_assoc, h]
    exact runB_rp n r
theorem runB_wd : ∀ (T : Tm) (b : Bool), T.Wf b → ∀ l, Bal (T.wd l) := by
  obtain ⟨c1, c2, c3, c4, c5, c6⟩ := cls_lits
  exact Tm.ind (P := fun _ T => ∀ l, Bal (T.wd l)) (fun x w l => .cons ⟨ne_tk w (by decide), ne_tk w (by decide)⟩ .nil) (fun a _ i l => .par _ (.cons c1 (i 3))) (fun a _ i l => .cons c2 (i 4))
    (fun o a b w _ _ i j l => .par _ ((i _).app (.cons ⟨w.ne (by decide), w.ne (by decide)⟩ (j _)))) (fun l => .cons c3 (.cons c4 .nil)) (fun p _ i l => .cons c3 ((i 0).app (.cons c4 .nil)))
    (fun p q _ _ i j l => .cons c3 ((i 0).app (.cons c5 ((j 0).app (.cons c4 .nil))))) (fun a _ i l => i 1) (fun a b _ _ i j l => (i 1).app (.cons c6 (j 1)))
theorem bal_wd {T : Tm} (w : T.Wf false) : runB 0 (T.wd 1) = some 0 := by
  have q := runB_wd T false w 1 0 []
  rw [List.append_nil] at q; exact q
end T_M6
section T_M7
theorem rowIs_split {x : Str} {q p : List Str} {vs : List Value} (R : RowIs vs (p ++ x :: q)) : ∃ v1 v2 t, vs = v2 ++ .str x t :: v1 ∧ RowIs v1 p ∧ RowIs v2 q ∧ PyData.strOk x = true := by
  induction p generalizing vs with
  | nil =>
    cases R with
    | cons ok r => exact ⟨[], _, _, rfl, .nil, r, ok⟩
  | cons y p ih =>
    cases R with
    | @cons vs' y' ty ws' ok r =>
      obtain ⟨v1, v2, t, rfl, r1, r2, ok2⟩ := ih r
      exact ⟨v1 ++ [.str y ty], v2, t, List.append_assoc _ _ _, .cons ok r1, r2, ok2⟩
theorem rowIs_join {v2 : List Value} {q : List Str} (R2 : RowIs v2 q) {v1 : List Value} {p : List Str} (R : RowIs v1 p) : RowIs (v2 ++ v1) (p ++ q) := by
  induction R with
  | nil => rw [List.append_nil]; exact R2
  | cons ok _ ih => rw [← List.append_assoc]; exact .cons ok ih
/-- the words with one pair of brackets taken out -/
structure Less (ws ws' : List Str) : Prop where
  cnt : cnt ws' < cnt ws
  nst : nest ws' ≤ nest ws
  w8 : W8 ws' ≤ W8 ws
  len : ws'.length ≤ ws.length
  ok : AllS ws → AllS ws'
theorem less_of {p q r : List Str} {ws : List Str} (e : ws = p ++ S "(" :: (q ++ S ")" :: r)) : Less ws (p ++ (q ++ r)) := by
  subst e
  have s1 : (q ++ r).Sublist (q ++ S ")" :: r) := (List.sublist_cons_self _ _).append_left _
  have s2 : (p ++ (q ++ r)).Sublist (p ++ S "(" :: (q ++ S ")" :: r)) := (s1.trans (List.sublist_cons_self _ _)).append_left _
  refine ⟨?_, s2.countP_le, ?_, s2.length_le, fun a x hx => a x (s2.subset hx)⟩
  · rw [cnt_app, cnt_app p, cnt_lp cls_lit.1]; exact Nat.add_lt_add_left (Nat.lt_succ_of_le s1.countP_le) _
  · rw [W8_app, W8_app p, W8_cons, W8_app, W8_app q]
    exact Nat.add_le_add_left (Nat.le_trans (Nat.add_le_add_left (W8_suffix (List.suffix_cons _ _)) _) (Nat.le_add_left _ _)) _
/-- the open brackets: each is a place behind, at the python list's own count -/
noncomputable def OpenAt (n : Nat) (a : List Str) (os : List Int) : Prop := ∀ o ∈ os, ∃ p q, a = p ++ S "(" :: q ∧ o = (n : Int) - 1 - (p.length : Int)
theorem OpenAt.grow {n : Nat} {a : List Str} {os : List Int} (h : OpenAt n a os) (x : Str) : OpenAt n (a ++ [x]) os := fun o ho => by
  obtain ⟨p, q, e, e2⟩ := h o ho
  exact ⟨p, q ++ [x], by rw [e, List.append_assoc]; rfl, e2⟩
theorem OpenAt.push {n : Nat} {a : List Str} {os : List Int} (h : OpenAt n a os) {o : Int} (ho : o = (n : Int) - 1 - (a.length : Int)) : OpenAt n (a ++ [S "("]) (os ++ [o]) := fun z hz => by
  rcases List.mem_append.mp hz with hz | hz
  · exact h.grow _ z hz
  · rw [List.mem_singleton.mp hz]; exact ⟨a, [], rfl, ho⟩
theorem OpenAt.init {n : Nat} {a : List Str} {os : List Int} {o : Int} (h : OpenAt n a (os ++ [o])) : OpenAt n a os := fun z hz => h z (List.mem_append_left _ hz)
theorem OpenAt.last {n : Nat} {a : List Str} {os : List Int} {o : Int} (h : OpenAt n a (os ++ [o])) : ∃ p q, a = p ++ S "(" :: q ∧ o = (n : Int) - 1 - (p.length : Int) := h o (List.mem_append_right _ (.head _))
theorem runB_le {b : List Str} {n : Nat} (h : runB n b = some 0) : n ≤ b.length := by
  induction b generalizing n with
  | nil => exact Nat.le_of_eq (Option.some.inj h)
  | cons x r ih =>
    by_cases h1 : x = S "("
    · subst h1; rw [runB_lp] at h; exact Nat.le_trans (Nat.le_succ n) (Nat.le_succ_of_le (ih h))
    · by_cases h2 : x = S ")"
      · subst h2
        cases n with
        | zero => exact Nat.zero_le _
        | succ k => rw [runB_rp] at h; exact Nat.succ_le_succ (ih h)
      · rw [runB_oth h1 h2] at h; exact Nat.le_succ_of_le (ih h)
theorem ints_last {ov : List Value} {os : List Int} (h : IntsAre ov os) (n : os ≠ []) : ∃ ov' os' o t, ov = ov' ++ [.int o t] ∧ os = os' ++ [o] ∧ IntsAre ov' os' := by
  rcases ints_nil_or_snoc (its := ov.toArray) h with ⟨_, e⟩ | ⟨j, ys, z, t, e1, e2, r⟩
  · exact absurd e n
  · exact ⟨j.toList, ys, z, t, (congrArg Array.toList e1).trans Array.toList_push, e2, r⟩
theorem pop_last {prog : Program} {w : World} {A : Around} {E : Value → Shared → Prop} {s : Shared} {h₀ : Heap} {L D : Addr} {m : Str → Option Value} {news news' : Led} {p : List Value} {y : Value} {n : Nat} {Q : Value → Shared → Prop}
    (F : Fr h₀ L s.heap m) (N : News h₀ L s.heap news) (U : Upd D (W.listOf (List.toArray (p ++ [y])) n) (W.listOf (List.toArray p) (n + 1)) news news') (hz : (p ++ [y]).length ≤ 5000)
    (h : ∀ h', Fr h₀ L h' m → News h₀ L h' news' → Q y { s with heap := h' }) : wpAny (model prog w) A (call (.builtin "list.pop") [.ref D]) Q E s :=
  kl_pop F N (p := p) (y := y) (by have e := kpa_last y p; simpa using e) U (by rw [List.toList_toArray, sizeLine_eq]; lia) h
inductive LawJ (T : Tm) (n : Nat) (wl ol : Addr) (r6 : Value) (base : Led) (i : Nat) (m₁ : Str → Option Value) (news₁ : Led) : Prop
  | mk (ov : List Value) (os : List Int) (k : Nat) (a : List Str) (b : List Str) : m₁ (S "words") = some (.ref wl) → m₁ (S "due") = some r6 → m₁ (S "opened") = some (.ref ol) → news₁ = (ol, W.listOf (List.toArray ov) k) :: base → IntsAre ov os → T.wd 1 = a ++ b → a.length = i → runB os.length b = some 0 → OpenAt n a os → LawJ T n wl ol r6 base i m₁ news₁
theorem lawJ_start {T : Tm} {n : Nat} {wl ol : Addr} {r6 : Value} {base : Led} {k : Nat} {m₁ : Str → Option Value} (w : T.Wf false) (g : T.Good) (h1 : m₁ (S "words") = some (.ref wl)) (h2 : m₁ (S "due") = some r6) (h3 : m₁ (S "opened") = some (.ref ol)) : LawJ T n wl ol r6 base 0 m₁ ((ol, W.listOf #[] k) :: base) :=
  ⟨[], [], k, [], T.wd 1, h1, h2, h3, rfl, .nil, rfl, rfl, bal_wd w, fun _ h => nomatch h⟩
section
variable {prog : Program} {w : World} {A : Around} {E : Value → Shared → Prop} {s : Shared} {h₀ : Heap} {L a : Addr} {news : Led} {vs : List Value} {n : Nat} {Q : Value → Shared → Prop}
theorem row_word {value slice : Expr} {k : Int} {u : Tok} {p q : List Str} {x : Str} (N : News h₀ L s.heap news) (ma : (a, W.listOf (List.toArray vs) n) ∈ news) (R : RowIs vs (p ++ x :: q)) (hk : k = (q.length : Int)) (hz : vs.length ≤ 5000) (h : ∀ t, Q (.str x t) s)
    (hs : subscripted slice false (.ref a) (.int k u) = operate [.ref a, .int k u] (getItem (.ref a) (.int k u)) := by with_unfolding_all rfl) : wpAny (model prog w) A (subscriptTail value slice (.ref a) (.int k u)) Q E s := by
  obtain ⟨v1, v2, t, rfl, r1, r2, ok⟩ := rowIs_split R
  have hL : s.heap.IsList a (List.toArray (v2 ++ .str x t :: v1)) := News.isList N ma
  have h2 := r2.length
  simp only [List.length_append] at hz
  exact tail_any hL.typeIs slot_list_getitem.lookup (wpAny_getItem_list hL (by lia) (by lia) (by
    rw [hk, show ((q.length : Int)).toNat = q.length from rfl, ← h2]; simp) (h t)) hs
end
end T_M7
section T_M8
theorem sl_le {vs : List Value} {lo hi : Option Int} (h : vs.length ≤ 1533) : (slicePick vs.toArray lo hi none).toList.length ≤ 1533 := by
  have q := slicePick_size_le vs.toArray lo hi none
  have e : vs.toArray.size = vs.length := List.size_toArray
  have e2 : (slicePick vs.toArray lo hi none).toList.length = (slicePick vs.toArray lo hi none).size := Array.length_toList
  lia
theorem add_z1 {vs : List Value} {l1 h1 l2 h2 : Option Int} (h : vs.length ≤ 1533) : (slicePick vs.toArray l1 h1 none).toList.length + (slicePick vs.toArray l2 h2 none).toList.length ≤ sizeLine :=
  Nat.le_trans (Nat.add_le_add (sl_le h) (sl_le h)) (by rw [sizeLine_eq]; decide)
theorem add_z2 {vs : List Value} {l1 h1 l2 h2 l3 h3 : Option Int} (h : vs.length ≤ 1533) : (((slicePick vs.toArray l1 h1 none).toList ++ (slicePick vs.toArray l2 h2 none).toList).toArray).toList.length + (slicePick vs.toArray l3 h3 none).toList.length ≤ sizeLine := by
  rw [List.toList_toArray, List.length_append]
  exact Nat.le_trans (Nat.add_le_add (Nat.add_le_add (sl_le h) (sl_le h)) (sl_le h)) (by rw [sizeLine_eq]; decide)
theorem sl_first {a b : List Value} {y : Int} (hy : y = (a.length : Int)) : (slicePick (a ++ b).toArray none (some y) none).toList = a := by
  rw [kms_pick_eq, List.toList_toArray, List.toList_toArray]
  unfold kms_pick kms_lo kms_hi
  simp only [List.drop_zero, Nat.sub_zero]
  rw [if_neg (by lia), hy, show ((a.length : Int)).toNat = a.length from rfl, List.length_append, Nat.min_eq_left (by lia), List.take_left]
theorem sl_mid {a m b : List Value} {x y : Int} (hx : x = (a.length : Int)) (hy : y = ((a.length + m.length : Nat) : Int)) : (slicePick (a ++ (m ++ b)).toArray (some x) (some y) none).toList = m := by
  rw [kms_pick_eq, List.toList_toArray, List.toList_toArray]
  unfold kms_pick kms_lo kms_hi
  simp only []
  rw [if_neg (by lia), if_neg (by lia), hx, hy, show ((a.length : Int)).toNat = a.length from rfl, show (((a.length + m.length : Nat) : Int)).toNat = a.length + m.length from rfl]
  simp only [List.length_append]
  rw [Nat.min_eq_left (by lia), Nat.min_eq_left (by lia), List.drop_left, show a.length + m.length - a.length = m.length by lia, List.take_left]
theorem sl_end {a b : List Value} {x : Int} (hx : x = (a.length : Int)) : (slicePick (a ++ b).toArray (some x) none none).toList = b := by
  rw [kms_pick_eq, List.toList_toArray, List.toList_toArray]
  unfold kms_pick kms_lo kms_hi
  simp only []
  rw [if_neg (by lia), hx, show ((a.length : Int)).toNat = a.length from rfl]
  simp only [List.length_append]
  rw [Nat.min_eq_left (by lia), List.drop_left, show a.length + b.length - a.length = b.length by lia, List.take_length]
/-- the three cuts joined are the list with the two brackets taken out -/
theorem cuts {wvs vr vq vp : List Value} {v1 v2 : Value} (e : wvs = vr ++ v1 :: (vq ++ v2 :: vp)) {y x2 y2 x3 : Int} (h1 : y = (vr.length : Int)) (h2 : x2 = ((vr.length + 1 : Nat) : Int)) (h3 : y2 = ((vr.length + 1 + vq.length : Nat) : Int)) (h4 : x3 = ((vr.length + 1 + vq.length + 1 : Nat) : Int)) :
    (((slicePick wvs.toArray none (some y) none).toList ++ (slicePick wvs.toArray (some x2) (some y2) none).toList).toArray).toList ++ (slicePick wvs.toArray (some x3) none none).toList = (vr ++ vq) ++ vp := by
  have a1 : (slicePick wvs.toArray none (some y) none).toList = vr := by rw [e]; exact sl_first h1
  have a2 : (slicePick wvs.toArray (some x2) (some y2) none).toList = vq := by
    rw [e, show vr ++ v1 :: (vq ++ v2 :: vp) = (vr ++ [v1]) ++ (vq ++ v2 :: vp) by simp]
    exact sl_mid (by simp [h2]) (by simp [h3])
  have a3 : (slicePick wvs.toArray (some x3) none none).toList = vp := by
    rw [e, show vr ++ v1 :: (vq ++ v2 :: vp) = (vr ++ (v1 :: (vq ++ [v2]))) ++ vp by simp]
    exact sl_end (by simp [h4]; lia)
  rw [a1, a2, a3, List.toList_toArray]
end T_M8
theorem News.pull0 {h₀ h : Heap} {L : Addr} {x : Addr × Obj} {tl l : Led} (N : News h₀ L h (tl ++ x :: l)) : News h₀ L h (x :: (tl ++ l)) := fun p hp => N p (List.perm_middle.symm.subset hp)
theorem News.pull1 {h₀ h : Heap} {L : Addr} {a x : Addr × Obj} {tl l : Led} (N : News h₀ L h (a :: (tl ++ x :: l))) : News h₀ L h (x :: a :: (tl ++ l)) := fun p hp => N p (con_sub (fun _ h => List.perm_middle.symm.subset h) p ((List.Perm.swap _ _ _).subset hp))
theorem vin_of {x : Str} (h : Among x [S "i", S "b", S "s"]) : Vin x := by
  have := h.h
  simp only [List.mem_cons, List.not_mem_nil, or_false] at this
  exact this
theorem cells_take {fz : Led} {ha cells : Addr} {cv : List Value} {ns : List Int} {cn : Nat} (m : (cells, W.listOf (List.toArray cv) cn) ∈ fz) (hI : IntsAre cv (List.take 63 ns)) : Cells fz ha cells cv :=
  ⟨⟨_, cn, m, hI⟩, by rw [hI.length, List.length_take]; lia⟩
theorem hok_start {len : Nat} {S : Int} : HOk len 0 0 (Int.fmod S 100003 * 7) 10 := by
  have := Int.fmod_nonneg_of_pos S (show (0 : Int) < 100003 by decide)
  have := Int.fmod_lt_of_pos S (show (0 : Int) < 100003 by decide)
  exact ⟨Int.le_refl _, by lia, Int.le_refl _, by lia, by lia, by lia, by lia⟩
theorem tree_use (w : World) (d : Nat) {bz fz : Led} {ha cells : Addr} {cv : List Value} {ty : Value} {kk : Str} {i j k n deep : Int} {t1 t2 t3 t4 tk td : Tok} {c : Nat} (hz : ∀ p ∈ fz, p.1 ≠ ha) (C : Cells fz ha cells cv) (H : HOk cv.length i j k n) (Bs : Base bz fz) (Ty : TypesO bz ty) (V : Vin kk) (e : deep = (d : Int)) :
    Runs w (6 * d + 10) ((ha, W.listOf #[.ref cells, .int i t1, .int j t2, .int k t3, .int n t4] c) :: fz) 412 [.ref ha, ty, .str kk tk, .int deep td] (TPost bz fz ha cells cv n d) := tree_ok w d bz fz ha cells cv ty kk i j k n deep t1 t2 t3 t4 tk td c hz C Bs Ty V H e
theorem ne_lt_mem {x y : Addr} {o : Obj} {l : Led} (h : ∀ p ∈ l, p.1 < x) (m : (y, o) ∈ l) : x ≠ y := Nat.ne_of_gt (h _ m)
theorem ne_gt {x y : Addr} (h : y < x) : x ≠ y := Nat.ne_of_gt h
theorem ne_alt_mem {P : Prop} {x y : Addr} {o : Obj} {l : Led} (h : P ∧ AllLt x l) (m : (y, o) ∈ l) : x ≠ y := Nat.ne_of_gt (ktn_ltOf h.2 _ m)
theorem hz_pick {menu hand D : Addr} {om oh oh' oD oD' oD2 : Obj} {tlT : Led} (l1 : ∀ p ∈ tlT ++ [(hand, oh), (D, oD)], p.1 < menu) (Y : Fre tlT [(hand, oh'), (D, oD')]) (hD : D < hand) : ∀ p ∈ (menu, om) :: (tlT ++ [(D, oD2)]), p.1 ≠ hand := by
  intro p hp
  rcases List.mem_cons.mp hp with rfl | hp
  · exact Nat.ne_of_gt (l1 (hand, oh) (List.mem_append_right _ (.head _)))
  · rcases List.mem_append.mp hp with hp | hp
    · exact Y _ (.head _) p hp
    · rw [List.mem_singleton.mp hp]; exact Nat.ne_of_lt hD
theorem lt_of_and {x y : Addr} {l l' : Led} (h : y < x ∧ AllLt x l) (s : ∀ p ∈ l', p ∈ l) : ∀ p ∈ l', p.1 < x := fun p hp => ktn_ltOf h.2 p (s p hp)
theorem names_ref {w : World} {L : Led} {v : Value} (h : NamesO w L v) : ∃ nm, v = .ref nm := by
  obtain ⟨x, dx, es, n, t1, sc, d0, n0, o0, e, r⟩ := h
  exact ⟨x, e⟩
theorem sub_rt {a b m c : Addr × Obj} {h : Addr × Obj} {R T : Led} : ∀ p ∈ a :: b :: (R ++ T), p ∈ a :: b :: h :: (R ++ m :: (T ++ [c])) := con_sub (con_sub fun p hp => .tail _ (app_sub (fun _ h => .tail _ (List.mem_append_left _ h)) p hp))
theorem sub_rt2 {m c : Addr × Obj} {R T : Led} : ∀ p ∈ R ++ T, p ∈ R ++ m :: (T ++ [c]) := app_sub fun _ h => .tail _ (List.mem_append_left _ h)
theorem lt_ne_all {x : Addr} {l : Led} (h : ∀ p ∈ l, p.1 < x) : ∀ p ∈ l, p.1 ≠ x := fun p hp => Nat.ne_of_lt (h p hp)
section T_Z1
section
local macro_rules | `(tactic| k_mem) => `(tactic| first | assumption | exact List.mem_cons_self | (refine' List.mem_cons_of_mem _ ?_; k_mem) | (refine' List.mem_append_left _ ?_; k_mem) | (refine' List.mem_append_right _ ?_; k_mem))
local macro_rules | `(tactic| k_ne) => `(tactic| first | assumption | exact Ne.symm (by assumption) | exact ne_l1 (by assumption) | exact ne_l2 (by assumption))
local macro_rules | `(tactic| k_all) => `(tactic| (refine' fre_ne ?Y ?m; (case Y => assumption); (case m => k_mem)))
local macro_rules | `(tactic| k_all) => `(tactic| (refine' all_app ?a ?b; (case a => k_all); (case b => k_all)))
local macro_rules | `(tactic| k_all) => `(tactic| assumption)
local macro_rules | `(tactic| walk_at "call ref") => `(tactic| (k_here; refine Held.of ?_))
local macro_rules | `(tactic| walk_at "subscriptTail") => `(tactic| (k_here; (with_reducible refine' row_pick ?N ?ma ?I ?a ?b ?z ?_); k_dflt (skip; (case N => k_asm); (case ma => k_mem); (case I => exact .cons (.cons (.cons .nil))); (case a => assumption); (case b => assumption); (case z => decide)); intro x7 t7 m7))
local macro_rules | `(tactic| walk_at "call builtin:len") => `(tactic| (k_here; k_dflt (refine' row_len ?N ?ma ?z ?_; (case N => k_asm); (case ma => k_mem); (case z => lia))))
local macro_rules | `(tactic| walk_at "pyIter ref") => `(tactic| (k_here; refine Held.of ?_))
local macro_rules | `(tactic| walk_at "eval Name") => `(tactic| (k_here; k_dflt (refine' ld ?k1 ?k2 ?_; (case k1 => k_asm); (case k2 => with_reducible assumption); k_whole)))
local macro_rules | `(tactic| walk_at "eval Name") => `(tactic| (k_here; k_dflt (refine' ld ?k1 ?k2 ?_; (case k1 => k_asm); (case k2 => ((try dsimp only); (refine Eq.trans (if_neg (by decide +kernel)) ?_); (repeat (refine Eq.trans (if_neg (by decide +kernel)) ?_)); with_reducible assumption)); k_whole)))
local macro_rules | `(tactic| walk_at "subscriptTail") => `(tactic| (k_here; (with_reducible refine' row_word ?N ?ma ?R ?hk ?hz ?_); k_dflt (skip; (case N => k_asm); (case R => with_reducible assumption); (case ma => k_mem); (case hk => lia); (case hz => lia)); intro t7))
local macro_rules | `(tactic| k_all) => `(tactic| exact lt_ne_all (by with_reducible assumption))
local macro_rules | `(tactic| walk_at "call builtin:list.append") => `(tactic| (k_here; k_dflt (refine' row_append ?F ?N ?U ?z ?_; (case F => k_asm); (case N => k_asm); (case U => k_upd); (case z => lia)); (intro h' F' N'; k_sweep)))
local macro_rules | `(tactic| walk_at "call builtin:list.pop") => `(tactic| (k_here; refine Held.of ?_))
local macro_rules | `(tactic| walk_at "binaryOp Add ref ref") => `(tactic| (k_here; refine Held.of ?_))
local macro_rules | `(tactic| walk_at "subscriptTail Name Slice ref ref") => `(tactic| (k_here; k_dflt (refine' kmk_slice ?F ?N ?l ?p ?q ?_ ?s ?t ?z; (case F => k_asm); (case N => k_asm); (case l => exact News.isList (by k_asm) (by k_mem)); (case p => kmk_part); (case q => kmk_part); (case s => with_unfolding_all rfl); (case t => kmk_pure); (case z => (rw [List.size_toArray, sizeLine_eq]; lia))); intro D' h' F' N' l1'; (try k_sweep)))
local macro_rules | `(tactic| walk_at "binaryOp Add ref ref") => `(tactic| (k_here; k_dflt (refine' kmk_add_lit ?F ?N ?a ?b rfl ?_ ?z; (case F => k_asm); (case N => k_asm); (case a => exact News.isList (by k_asm) (by k_mem)); (case b => exact News.isList (by k_asm) (by k_mem)); (case z => first | exact add_z1 (by with_reducible assumption) | exact add_z2 (by with_reducible assumption))); intro D' h' F' N' l1'; (try k_sweep)))
theorem law_holds : PySem.Challenge.rw_pb0356_01.Holds := by
  refine hd ?_
  k_go0
  all_goals try k_fold
  k_steps
  refine Held.mk ?_
  (k_here; k_dflt (refine' Runs.use (types_ok _ _) ?B ?F ?X ?N ?T ?hk ?hd ?hu ?_; (case F => k_asm); (case N => k_asm);  (case B => k_asm); (case X => k_asm); (case T => k_asm); (case hk => first | exact rfl | assumption); (case hd => first | decide | ktr_room); (case hu => first | decide | ktr_units)); intro r1 n1 h1 t1 p1 F1 N1; obtain ⟨tlT, e1, YT, TT⟩ := p1; subst e1; (try dsimp only); k_sweep)
  k_steps
  refine Held.mk ?_
  (k_here; k_dflt (refine' Runs.usePk (pick_h _ ?hz ?C ?H ?l0 ?l1) ?F ?B ?X ?T ?hk ?N ?hd ?hu ?_; (case F => k_asm); (case N => first | k_asm | exact News.pull1 (by k_asm) | exact News.pull0 (by k_asm)); (case hz => exact hz_pick (by with_reducible assumption) (by with_reducible assumption) (by with_reducible assumption)); (case C => exact cells_take (by k_mem) (by assumption)); (case H => exact hok_start); (case l0 => decide); (case l1 => decide); (case B => k_asm); (case X => k_asm); (case T => k_asm); (case hk => first | exact rfl | assumption); (case hd => first | decide | ktr_room); (case hu => first | decide | ktr_units)); intro h9 t9 F9 i9 j9 k9 d9 u91 u92 u93 u94 u95 c9 H9 l9 m9 N9; (try dsimp only); k_sweep)
  k_steps
  refine Held.mk ?_
  (k_here; k_dflt (refine' Runs.useT (tree_use _ 4 ?hz ?C ?H ?S9 ?T9 ?hk9 ?D9) ?F ?B ?X ?T ?hk ?N ?hd ?hu ?_; (case F => k_asm); (case N => first | k_asm | exact News.pull1 (by k_asm) | exact News.pull0 (by k_asm)); (case T9 => with_reducible assumption); (case hz => exact hz_pick (by with_reducible assumption) (by with_reducible assumption) (by with_reducible assumption)); (case C => exact cells_take (by k_mem) (by assumption)); (case S9 => exact ⟨fun p hp => by k_mem⟩); (case H => with_reducible assumption); (case hk9 => exact vin_of (by with_reducible assumption)); (case D9 => rfl); (case B => k_asm); (case X => k_asm); (case T => k_asm); (case hk => first | exact rfl | assumption); (case hd => first | decide | ktr_room); (case hu => first | decide | ktr_units)); intro r2 h2 t2 F2 tlR i2 j2 k2 n2' u21 u22 u23 u24 c2 TR H2 YR ZR DR GR vR N2; (try dsimp only); k_sweep)
  have hdep : TR.dep ≤ 8 := GR.dep
  have hsz : TR.sz ≤ 511 := GR.sz
  have hops : TR.ops ≤ 10 := by have := GR.ops; have := H2.n0; lia
  have hnst : nest (TR.wd 1) ≤ 20 := Nat.le_trans (nest_wd GR.wf GR.good 1) (Nat.mul_le_mul_left 2 hops)
  have hw8 : W8 (TR.wd 1) ≤ 40 := Nat.le_trans (W8_wd GR.wf GR.good 1) (Nat.mul_le_mul_left 4 hops)
  have hlen : (TR.wd 1).length ≤ 1533 := Nat.le_trans (wd_len GR.wf GR.good 1) (Nat.mul_le_mul_left 3 hsz)
  have htx : (TR.tx 1).length ≤ 20000 := Nat.le_trans (tx_len TR 1 GR.good) (Nat.le_trans (Nat.mul_le_mul_left 20 hsz) (by decide))
  k_steps
  refine Held.mk ?_
  k_here
  (k_dflt (refine' Runs.use (names_ok _ (tlR ++ tlT) _ _ _ ?hab ?hbz) ?B ?F ?X ?N ?T ?hk ?hd ?hu ?_; (case F => k_asm); (case N => exact News.sub (by k_asm) sub_rt); (case hab => exact (by with_reducible assumption : _ < _ ∧ _ < _ ∧ _).1); (case hbz => exact lt_of_and (by with_reducible assumption) sub_rt2); (case B => k_asm); (case X => k_asm); (case T => k_asm); (case hk => first | exact rfl | assumption); (case hd => first | decide | ktr_room); (case hu => first | decide | ktr_units)))
  intro r3 n3 h3 t3 p3 F3 N3
  obtain ⟨tlN, e3, YN, NN⟩ := p3
  subst e3
  obtain ⟨nm, enm⟩ := names_ref NN
  subst enm
  (try dsimp only)
  k_sweep
  k_steps
  refine Held.mk ?_
  k_here
  (k_dflt (refine' Runs.useS ((prints _ TR GR.good (Nat.le_trans GR.sz (by decide))).ex1 GR.wf _ _ _ (NN.mono ?nn) (DR.mono ?dd)) ?F ?B ?X ?T ?hk ?N ?hd ?hu ?_; (case F => k_asm); (case N => k_asm); (case nn => exact fun p hp => List.mem_append_left _ hp); (case dd => exact fun p hp => List.mem_append_right _ hp); (case B => k_asm); (case X => k_asm); (case T => k_asm); (case hk => first | exact rfl | assumption); (case hd => first | decide | ktr_room); (case hu => first | decide | ktr_units)))
  intro h4 t4 F4 tx4 N4
  (try dsimp only)
  k_sweep
  k_steps
  refine Held.mk ?_
  k_here
  (k_dflt (refine' Runs.use (words_ok _ _ _ _ (TR.wd 1) (scan_all TR 1 GR.good) htx (tx_ok TR 1 GR.good) (Nat.le_trans hlen (by decide))) ?B ?F ?X ?N ?T ?hk ?hd ?hu ?_; (case F => k_asm); (case N => k_asm);  (case B => k_asm); (case X => k_asm); (case T => k_asm); (case hk => first | exact rfl | assumption); (case hd => first | decide | ktr_room); (case hu => first | decide | ktr_units)))
  intro r5 n5 h5 t5 p5 F5 N5
  obtain ⟨tlW, wl, wn, wvs, e5, YW, e5', mW, RW⟩ := p5
  subst e5
  subst e5'
  (try dsimp only)
  k_sweep
  k_steps
  refine Held.mk ?_
  k_here
  (k_dflt (refine' Runs.useD (plains _ TR _ _ (DR.mono ?dd)) ?F ?B ?X ?T ?hk ?N ?hd ?hu ?_; (case F => k_asm); (case N => k_asm); (case dd => exact fun p hp => List.mem_append_right _ (List.mem_append_right _ hp)); (case B => k_asm); (case X => k_asm); (case T => k_asm); (case hk => first | exact rfl | assumption); (case hd => first | decide | ktr_room); (case hu => first | decide | ktr_units)))
  intro r6 h6 t6 F6 tlP YP DP N6
  (try dsimp only)
  k_sweep
  k_steps
  refine Held.mk ?_
  k_here
  (k_dflt (refine' Runs.use (read_ok _ (TR.wd 1) (Nat.le_trans hlen (by decide)) _ wl wn wvs ?mm RW) ?B ?F ?X ?N ?T ?hk ?hd ?hu ?_; (case F => k_asm); (case N => k_asm); (case mm => exact List.mem_append_right _ (List.mem_append_left _ mW)); (case B => k_asm); (case X => k_asm); (case T => k_asm); (case hk => first | exact rfl | assumption); (case hd => first | decide | ktr_room); (case hu => first | decide | ktr_units)))
  intro r7 n7 h7 t7 p7 F7 N7
  obtain ⟨tlD, dd7, e7, DD7, WW7⟩ := p7
  subst e7
  (try dsimp only)
  k_sweep
  k_steps
  have hvl : wvs.length ≤ 1533 := by rw [RW.length]; exact hlen
  have hd7 : dd7 = TR.pl := whole_due GR.wf WW7
  subst hd7
  have fp : Fit TR.pl := whole_fit (wd_ok TR 1 GR.good) (Nat.le_trans hw8 (by decide)) WW7
  obtain ⟨as7, R7⟩ := fp.reads (News.sub N7 (fun p hp => List.mem_append_left _ hp)) DD7
  obtain ⟨as6, R6⟩ := fp.reads (News.sub N7 (fun p hp => List.mem_append_right _ (List.mem_append_left _ hp))) DP
  refine ne_dataH R7 R6 fp.shaped fp.shaped (by first | k_units | ktr_units) ?_
  rw [(fp.eqv fp).mpr rfl]
  clear R7 R6
  k_steps
  refine Held.mk ?_
  rename_i ol hB l1o hA FA NA hC tkC ta tb tc RG FG NG KG
  clear FA NA
  k_dflt refine' range_inv (n := wvs.length) (LawJ TR wvs.length wl ol r6 _) rfl RG (small_down (by lia) (by lia) (by lia) (by lia)) (by rw [rangeSize_downNat]; lia) FG NG (lawJ_start GR.wf GR.good rfl rfl rfl) ?turn ?done
  case turn =>
    clear RG FG NG KG
    intro I ii m₁ news₁ t h tk hi hJ hI F₁ N₁
    obtain ⟨ov, os, k, a9, b9, g1, g2, g3, rfl, IO, ew, hai, hrun, HO⟩ := hJ
    have hln := RW.length
    rw [ew, List.length_append] at hln
    obtain ⟨x, b', rfl⟩ : ∃ x b', b9 = x :: b' := by
      cases b9 with
      | nil => simp at hln; lia
      | cons x b' => exact ⟨x, b', rfl⟩
    simp only [List.length_cons] at hln
    have RW2 : RowIs wvs (a9 ++ x :: b') := by rw [← ew]; exact RW
    have hov : ov.length ≤ 1533 := by rw [IO.length]; have := runB_le hrun; simp only [List.length_cons] at this; lia
    have hIo : I ≠ ol := (hI _ (.head _)).symm
    k_steps
    · have hx : x = S "(" := eq_of_beq (by with_reducible assumption)
      subst hx
      (with_reducible rename Fr _ _ _ _ => F5)
      (with_reducible rename News _ _ _ _ => N5)
      exact LEnd.next ((ol, _) :: _) F5 N5 (.head _) (fun p hp => .tail _ hp) (fun p hp => (List.mem_cons.mp hp).elim (fun e => by rw [e]; exact hIo.symm) (fun hp => hI p (.tail _ hp)))
        ⟨_, _, _, a9 ++ [S "("], b', (if_neg (by decide +kernel)).trans g1, (if_neg (by decide +kernel)).trans g2, (if_neg (by decide +kernel)).trans g3, rfl, ksk_snoc IO, by rw [ew]; simp, by simp [hai], by rw [List.length_append, List.length_singleton]; rw [runB_lp] at hrun; exact hrun, HO.push (by lia)⟩
    · refine Held.mk ?_
      have hx : x = S ")" := eq_of_beq (by with_reducible assumption)
      subst hx
      have hne : os ≠ [] := by rintro rfl; simp [runB, brk_ne] at hrun
      obtain ⟨ov', os', o, ot, rfl, rfl, IO'⟩ := ints_last IO hne
      obtain ⟨pw, qw, ea, eo⟩ := HO.last
      have hrun' : runB os'.length b' = some 0 := by rw [List.length_append, List.length_singleton, runB_rp] at hrun; exact hrun
      obtain ⟨va, vr, tr, ewv, Ra, Rr, _⟩ := rowIs_split RW2
      rw [ea] at Ra
      obtain ⟨vp, vq, tl9, eva, Rp, Rq, _⟩ := rowIs_split Ra
      rw [eva] at ewv
      have LS : Less (TR.wd 1) (pw ++ (qw ++ b')) := less_of (by rw [ew, ea]; simp)
      have RN : RowIs ((vr ++ vq) ++ vp) (pw ++ (qw ++ b')) := rowIs_join (rowIs_join Rr Rq) Rp
      have l1' := Rp.length
      have l2' := Rq.length
      have l3' := Rr.length
      have l4' := congrArg List.length ea
      simp only [List.length_append, List.length_cons] at l4'
      k_here
      (k_dflt (refine' pop_last ?F ?N ?U ?z ?_; (case F => k_asm); (case N => k_asm); (case U => k_upd); (case z => exact Nat.le_trans hov (by decide))))
      intro h6 F6' N6'
      k_sweep
      k_steps
      refine Held.mk ?_
      (with_reducible rename News _ _ _ _ => N9)
      rw [cuts ewv ?c1 ?c2 ?c3 ?c4] at N9
      case c1 => lia
      case c2 => lia
      case c3 => lia
      case c4 => lia
      have hnn : nest (pw ++ (qw ++ b')) ≤ 20 := Nat.le_trans LS.nst hnst
      k_here
      (k_dflt (refine' Runs.use (read_ok _ (pw ++ (qw ++ b')) (Nat.le_trans LS.len (Nat.le_trans hlen (by decide))) _ _ _ ((vr ++ vq) ++ vp) (List.mem_cons_self) RN) ?B ?F ?X N9 ?T ?hk ?hd ?hu ?_; (case F => k_asm); (case B => k_asm); (case X => k_asm); (case T => k_asm); (case hk => first | exact rfl | assumption); (case hd => first | decide | ktr_room); (case hu => first | decide | ktr_units)))
      intro r8 n8 h8 t8 p8 F8 N8
      obtain ⟨tlE, dd8, e8, DD8, WW8⟩ := p8
      subst e8
      (try dsimp only)
      k_sweep
      k_steps
      have fd : Fit dd8 := whole_fit (LS.ok (wd_ok TR 1 GR.good)) (Nat.le_trans LS.w8 (Nat.le_trans hw8 (by decide))) WW8
      have hne8 : dd8 ≠ TR.pl := whole_less GR.wf LS.cnt WW8
      obtain ⟨as8, R8⟩ := fd.reads (News.sub N8 (fun p hp => List.mem_append_left _ hp)) DD8
      obtain ⟨as6, R6⟩ := fp.reads (News.sub N8 (fun p hp => by simp [hp])) DP
      refine eq_dataH R8 R6 fd.shaped fp.shaped (by first | k_units | ktr_units) ?_
      rw [Bool.eq_false_iff.mpr fun hq => hne8 ((fd.eqv fp).mp hq)]
      clear R8 R6
      k_steps
      (with_reducible rename Fr _ _ _ _ => F5)
      (with_reducible rename News _ _ _ _ => N5)
      exact LEnd.next ((ol, _) :: _) F5 N5 (List.mem_append_right _ (.tail _ (.tail _ (.tail _ (.tail _ (.tail _ (.head _))))))) (fun p hp => List.mem_append_right _ (.tail _ (.tail _ (.tail _ (.tail _ (.tail _ (.tail _ hp))))))) (fun p hp => (List.mem_cons.mp hp).elim (fun e => by rw [e]; exact hIo.symm) (fun hp => hI p (.tail _ hp)))
        ⟨ov', os', _, a9 ++ [S ")"], b', (if_neg (by decide +kernel)).trans ((if_neg (by decide +kernel)).trans g1), (if_neg (by decide +kernel)).trans ((if_neg (by decide +kernel)).trans g2), (if_neg (by decide +kernel)).trans ((if_neg (by decide +kernel)).trans g3), rfl, IO', by rw [ew]; simp, by simp [hai], hrun', HO.init.grow _⟩
    · have hx1 : x ≠ S "(" := beq_f (by with_reducible assumption)
      have hx2 : x ≠ S ")" := beq_f (by with_reducible assumption)
      (with_reducible rename Fr _ _ _ _ => F5)
      (with_reducible rename News _ _ _ _ => N5)
      exact LEnd.next ((ol, _) :: _) F5 N5 (.head _) (fun p hp => .tail _ hp) (fun p hp => (List.mem_cons.mp hp).elim (fun e => by rw [e]; exact hIo.symm) (fun hp => hI p (.tail _ hp)))
        ⟨_, _, _, a9 ++ [x], b', (if_neg (by decide +kernel)).trans g1, (if_neg (by decide +kernel)).trans g2, (if_neg (by decide +kernel)).trans g3, rfl, IO, by rw [ew]; simp, by simp [hai], by rw [runB_oth hx1 hx2] at hrun; exact hrun, HO.grow x⟩
  case done =>
    clear RG FG NG KG
    intro m₁ news₁ h tk hJ F₁ N₁
    obtain ⟨ov, os, k, a9, b9, g1, g2, g3, rfl, IO, ew, hai, hrun, HO⟩ := hJ
    have hb9 : b9 = [] := by
      have := RW.length
      rw [ew, List.length_append] at this
      exact List.length_eq_zero_iff.mp (by lia)
    subst hb9
    have hos : os = [] := by
      cases os with
      | nil => rfl
      | cons _ _ => simp [runB] at hrun
    subst hos
    k_steps
end
end T_Z1
end Mine
theorem PySem.Challenge.cw_pb0356_01_holds : PySem.Challenge.rw_pb0356_01.Holds :=
  Mine.law_holds
