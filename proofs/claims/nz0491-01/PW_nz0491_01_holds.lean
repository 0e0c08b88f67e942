import PyProof.Rows.All
import Wide.All
import OpenK.AllK
import Wide.FinOn
import PySem.Challenge.RW_nz0491_01
open PySem PySem.W PySem.Calls PyProof.Rows
set_option Elab.async false
set_option rowWalk.seconds 0
set_option compiler.extract_closed false
set_option maxRecDepth 100000
namespace Mine
theorem e0 : @PySem.instDecidableEqStr = @PySem.instDecidableEqStr := rfl
name_quick tw2711585505577850959 for PySem.instDecidableEqStr by Mine.e0
name_quick tw8620020772036689432 for PySem.instDecidableEqStr by Mine.e0
name_quick tw14529111542420380806 for PySem.instDecidableEqStr by Mine.e0
name_quick tw7232422423428716515 for PySem.instDecidableEqStr by Mine.e0
name_quick tw13987355940573415152 for PySem.instDecidableEqStr by Mine.e0
name_quick tw6936260988540860943 for PySem.instDecidableEqStr by Mine.e0
name_quick tw6004533443673955352 for PySem.instDecidableEqStr by Mine.e0
name_quick tw17517737089405305841 for PySem.instDecidableEqStr by Mine.e0
name_quick tw9674257727999782656 for PySem.instDecidableEqStr by Mine.e0
name_quick tw7009043117176579089 for PySem.instDecidableEqStr by Mine.e0
name_quick tw219737044198020058 for PySem.instDecidableEqStr by Mine.e0
name_quick tw9011979029575296479 for PySem.instDecidableEqStr by Mine.e0
name_quick tw43969757491396457 for PySem.instDecidableEqStr by Mine.e0
name_quick tw1291980286583624508 for PySem.instDecidableEqStr by Mine.e0
name_quick tw1258717718454355964 for PySem.instDecidableEqStr by Mine.e0
name_quick tw15560500314895047343 for PySem.instDecidableEqStr by Mine.e0
name_quick tw4636218855388986860 for PySem.instDecidableEqStr by Mine.e0
name_quick tw282004115355043989 for PySem.instDecidableEqStr by Mine.e0
name_quick tw13640514254501968386 for PySem.instDecidableEqStr by Mine.e0
name_quick tw3856783459128436802 for PySem.instDecidableEqStr by Mine.e0
name_quick tw17804436615005485693 for PySem.instDecidableEqStr by Mine.e0
name_quick tw15079194523842364033 for PySem.instDecidableEqStr by Mine.e0
name_quick tw3093977132361051618 for PySem.instDecidableEqStr by Mine.e0
name_quick tw14372999379210936671 for PySem.instDecidableEqStr by Mine.e0
name_quick tw7275051467321613617 for PySem.instDecidableEqStr by Mine.e0
name_quick tw17846936440860909165 for PySem.instDecidableEqStr by Mine.e0
name_quick tw10528696920762540405 for PySem.instDecidableEqStr by Mine.e0
name_quick tw12233582284571471492 for PySem.instDecidableEqStr by Mine.e0
name_quick tw9411525586021648077 for PySem.instDecidableEqStr by Mine.e0
name_quick tw17730448691065144110 for PySem.instDecidableEqStr by Mine.e0
name_quick tw6135381517318000843 for PySem.instDecidableEqStr by Mine.e0
name_quick tw3619232141914619222 for PySem.instDecidableEqStr by Mine.e0
name_quick tw1184552218554016812 for PySem.instDecidableEqStr by Mine.e0
name_quick tw9376109419431680627 for PySem.instDecidableEqStr by Mine.e0
name_quick tw3766158894648301139 for PySem.instDecidableEqStr by Mine.e0
name_quick tw1355338860687761863 for PySem.instDecidableEqStr by Mine.e0
name_quick tw682011567655089306 for PySem.instDecidableEqStr by Mine.e0
name_quick tw16413264400604254196 for PySem.instDecidableEqStr by Mine.e0
name_quick tw11306939235166856333 for PySem.instDecidableEqStr by Mine.e0
name_quick tw4011157648589011858 for PySem.instDecidableEqStr by Mine.e0
name_quick tw13180171748994924942 for PySem.instDecidableEqStr by Mine.e0
name_quick tw1061100674550078846 for PySem.instDecidableEqStr by Mine.e0
name_quick tw18266329826461479122 for PySem.instDecidableEqStr by Mine.e0
name_quick tw4407734736301137906 for PySem.instDecidableEqStr by Mine.e0
name_quick tw4434333111790514575 for PySem.instDecidableEqStr by Mine.e0
name_quick tw704327219915372674 for PySem.instDecidableEqStr by Mine.e0
name_quick tw9787463984185863102 for PySem.instDecidableEqStr by Mine.e0
name_quick tw10010936943081839664 for PySem.instDecidableEqStr by Mine.e0
name_quick tw3315324234476444515 for PySem.instDecidableEqStr by Mine.e0
name_quick tw14896874001708588922 for PySem.instDecidableEqStr by Mine.e0
name_quick tw151948405760981731 for PySem.instDecidableEqStr by Mine.e0
name_quick tw9759809726879904816 for PySem.instDecidableEqStr by Mine.e0
name_quick tw7035115661146626270 for PySem.instDecidableEqStr by Mine.e0
name_quick tw5732905514179830355 for PySem.instDecidableEqStr by Mine.e0
name_quick tw607167704815816724 for PySem.instDecidableEqStr by Mine.e0
name_quick tw14311459727803291754 for PySem.instDecidableEqStr by Mine.e0
name_quick tw13607416678640721797 for PySem.instDecidableEqStr by Mine.e0
name_quick tw11277716924127702174 for PySem.instDecidableEqStr by Mine.e0
name_quick tw13215998728584607739 for PySem.instDecidableEqStr by Mine.e0
name_quick tw2968979199505139716 for PySem.instDecidableEqStr by Mine.e0
name_quick tw16741492637210864865 for PySem.instDecidableEqStr by Mine.e0
name_quick tw9285146279643344392 for PySem.instDecidableEqStr by Mine.e0
name_quick tw11130039905162102590 for PySem.instDecidableEqStr by Mine.e0
name_quick tw18101931140130867144 for PySem.instDecidableEqStr by Mine.e0
name_quick tw2193789692954389824 for PySem.instDecidableEqStr by Mine.e0
name_quick tw10073347824450446311 for PySem.instDecidableEqStr by Mine.e0
name_quick tw15007238320947547705 for PySem.instDecidableEqStr by Mine.e0
name_quick tw15168306246750427876 for PySem.instDecidableEqStr by Mine.e0
name_quick tw1086765413395364841 for PySem.instDecidableEqStr by Mine.e0
name_quick tw951843321253372498 for PySem.instDecidableEqStr by Mine.e0
name_quick tw14386061602966655976 for PySem.instDecidableEqStr by Mine.e0
name_quick tw3891137856419664920 for PySem.instDecidableEqStr by Mine.e0
name_quick tw13789449189825218787 for PySem.instDecidableEqStr by Mine.e0
name_quick tw16643379632663270332 for PySem.instDecidableEqStr by Mine.e0
name_quick tw16966814322356759819 for PySem.instDecidableEqStr by Mine.e0
name_quick tw4658958612460137192 for PySem.instDecidableEqStr by Mine.e0
name_quick tw8708707556590381134 for PySem.instDecidableEqStr by Mine.e0
name_quick tw17964007177503468958 for PySem.instDecidableEqStr by Mine.e0
name_quick tw5718504769338547837 for PySem.instDecidableEqStr by Mine.e0
name_quick tw16494616584097029746 for PySem.instDecidableEqStr by Mine.e0
name_quick tw17888162413812561239 for PySem.instDecidableEqStr by Mine.e0
name_quick tw5882768191206486792 for PySem.instDecidableEqStr by Mine.e0
name_quick tw14108194823987119177 for PySem.instDecidableEqStr by Mine.e0
name_quick tw3577408171920636059 for PySem.instDecidableEqStr by Mine.e0
name_quick tw912392155897948271 for PySem.instDecidableEqStr by Mine.e0
name_quick tw14241437641891027426 for PySem.instDecidableEqStr by Mine.e0
name_quick tw8902219603052485911 for PySem.instDecidableEqStr by Mine.e0
name_quick tw1320183511955256522 for PySem.instDecidableEqStr by Mine.e0
name_quick tw9979284746773624096 for PySem.instDecidableEqStr by Mine.e0
name_quick tw14126943448341045398 for PySem.instDecidableEqStr by Mine.e0
name_quick tw6589095468515690095 for PySem.instDecidableEqStr by Mine.e0
name_quick tw3820604794100220378 for PySem.instDecidableEqStr by Mine.e0
name_quick tw10948738476641704880 for PySem.instDecidableEqStr by Mine.e0
name_quick tw17975652961387846372 for PySem.instDecidableEqStr by Mine.e0
name_quick tw8032284361305108907 for PySem.instDecidableEqStr by Mine.e0
name_quick tw15278061642289888581 for PySem.instDecidableEqStr by Mine.e0
name_quick tw3698559305507148144 for PySem.instDecidableEqStr by Mine.e0
name_quick tw4527066259768149269 for PySem.instDecidableEqStr by Mine.e0
name_quick tw17274371674624000324 for PySem.instDecidableEqStr by Mine.e0
name_quick tw8224813933742928703 for PySem.instDecidableEqStr by Mine.e0
name_quick tw1055568401681811165 for PySem.instDecidableEqStr by Mine.e0
name_quick tw14333388528381170442 for PySem.instDecidableEqStr by Mine.e0
name_quick tw11853533878840232495 for PySem.instDecidableEqStr by Mine.e0
name_quick tw12825359941727978080 for PySem.instDecidableEqStr by Mine.e0
name_quick tw3362959441861295915 for PySem.instDecidableEqStr by Mine.e0
name_quick tw1370275717833778536 for PySem.instDecidableEqStr by Mine.e0
name_quick tw8579058602437062094 for PySem.instDecidableEqStr by Mine.e0
name_quick tw12393455550290869266 for PySem.instDecidableEqStr by Mine.e0
name_quick tw16406328271908756883 for PySem.instDecidableEqStr by Mine.e0
name_quick tw17111948838632640456 for PySem.instDecidableEqStr by Mine.e0
name_quick tw4319705520415482375 for PySem.instDecidableEqStr by Mine.e0
name_quick tw16548257151911338427 for PySem.instDecidableEqStr by Mine.e0
name_quick tw17552769576498331613 for PySem.instDecidableEqStr by Mine.e0
name_quick tw7668040173513444633 for PySem.instDecidableEqStr by Mine.e0
name_quick tw1735497430108182060 for PySem.instDecidableEqStr by Mine.e0
name_quick tw16947794391021106201 for PySem.instDecidableEqStr by Mine.e0
name_quick tw6711915476519705758 for PySem.instDecidableEqStr by Mine.e0
name_quick tw4978915544186085027 for PySem.instDecidableEqStr by Mine.e0
name_quick tw15900120412870309639 for PySem.instDecidableEqStr by Mine.e0
name_quick tw10007627690174824804 for PySem.instDecidableEqStr by Mine.e0
name_quick tw1749818173716722547 for PySem.instDecidableEqStr by Mine.e0
name_quick tw2315820567201803617 for PySem.instDecidableEqStr by Mine.e0
name_quick tw16531745337717519161 for PySem.instDecidableEqStr by Mine.e0
name_quick tw14884601019740666482 for PySem.instDecidableEqStr by Mine.e0
name_quick tw7496433998918960881 for PySem.instDecidableEqStr by Mine.e0
name_quick tw17069979004554194336 for PySem.instDecidableEqStr by Mine.e0
name_quick tw13912434898499826684 for PySem.instDecidableEqStr by Mine.e0
name_quick tw14834023430324568649 for PySem.instDecidableEqStr by Mine.e0
name_quick tw13016732220969518872 for PySem.instDecidableEqStr by Mine.e0
name_quick tw1503297043503765363 for PySem.instDecidableEqStr by Mine.e0
name_quick tw15263041282635125899 for PySem.instDecidableEqStr by Mine.e0
name_quick tw12659028871203227004 for PySem.instDecidableEqStr by Mine.e0
name_quick tw2905824091091238844 for PySem.instDecidableEqStr by Mine.e0
name_quick tw136631920214876835 for PySem.instDecidableEqStr by Mine.e0
name_quick tw5721027456603625697 for PySem.instDecidableEqStr by Mine.e0
name_quick tw12290603225136948437 for PySem.instDecidableEqStr by Mine.e0
name_quick tw6122645084068987007 for PySem.instDecidableEqStr by Mine.e0
name_quick tw14714103240675001986 for PySem.instDecidableEqStr by Mine.e0
name_quick tw1041845030581493396 for PySem.instDecidableEqStr by Mine.e0
name_quick tw2422670821966735624 for PySem.instDecidableEqStr by Mine.e0
name_quick tw8860024209350480642 for PySem.instDecidableEqStr by Mine.e0
name_quick tw8719427161674164953 for PySem.instDecidableEqStr by Mine.e0
name_quick tw7581816359482902497 for PySem.instDecidableEqStr by Mine.e0
name_quick tw9594665118957945026 for PySem.instDecidableEqStr by Mine.e0
name_quick tw11333186260410459676 for PySem.instDecidableEqStr by Mine.e0
name_quick tw15423634916342008072 for PySem.instDecidableEqStr by Mine.e0
name_quick tw16869277618539721502 for PySem.instDecidableEqStr by Mine.e0
name_quick tw9501820088010722379 for PySem.instDecidableEqStr by Mine.e0
name_quick tw3282434896037501709 for PySem.instDecidableEqStr by Mine.e0
name_quick tw2627984346626558326 for PySem.instDecidableEqStr by Mine.e0
name_quick tw16752143609539240740 for PySem.instDecidableEqStr by Mine.e0
name_quick tw7198390536060210744 for PySem.instDecidableEqStr by Mine.e0
name_quick tw4075660801711882420 for PySem.instDecidableEqStr by Mine.e0
name_quick tw11519604305632133818 for PySem.instDecidableEqStr by Mine.e0
name_quick tw12898947447245864913 for PySem.instDecidableEqStr by Mine.e0
name_quick tw15823609455315575823 for PySem.instDecidableEqStr by Mine.e0
name_quick tw6426273055680023932 for PySem.instDecidableEqStr by Mine.e0
name_quick tw5189142188285759775 for PySem.instDecidableEqStr by Mine.e0
name_quick tw2460228577881660442 for PySem.instDecidableEqStr by Mine.e0
name_quick tw724751600484774222 for PySem.instDecidableEqStr by Mine.e0
name_quick tw17954471519018878134 for PySem.instDecidableEqStr by Mine.e0
name_quick tw4302124980754421698 for PySem.instDecidableEqStr by Mine.e0
name_quick tw3131776341256141916 for PySem.instDecidableEqStr by Mine.e0
name_quick tw11588390666370768167 for PySem.instDecidableEqStr by Mine.e0
name_quick tw9458956999447867950 for PySem.instDecidableEqStr by Mine.e0
name_quick tw5529568453561195837 for PySem.instDecidableEqStr by Mine.e0
name_quick tw12734952128020822468 for PySem.instDecidableEqStr by Mine.e0
name_quick tw667198328695590252 for PySem.instDecidableEqStr by Mine.e0
name_quick tw7094674258960923220 for PySem.instDecidableEqStr by Mine.e0
name_quick tw10919533547850550483 for PySem.instDecidableEqStr by Mine.e0
name_quick tw1574873078441994576 for PySem.instDecidableEqStr by Mine.e0
name_quick tw8450942572126056277 for PySem.instDecidableEqStr by Mine.e0
name_quick tw17000155066101142889 for PySem.instDecidableEqStr by Mine.e0
name_quick tw2354101950205528012 for PySem.instDecidableEqStr by Mine.e0
name_quick tw16439824349840649037 for PySem.instDecidableEqStr by Mine.e0
name_quick tw16593013826814733010 for PySem.instDecidableEqStr by Mine.e0
name_quick tw15490439104401381959 for PySem.instDecidableEqStr by Mine.e0
name_quick tw16374537267813192141 for PySem.instDecidableEqStr by Mine.e0
name_quick tw10887116778572429059 for PySem.instDecidableEqStr by Mine.e0
name_quick tw1419416864934026935 for PySem.instDecidableEqStr by Mine.e0
name_quick tw10323183001455561277 for PySem.instDecidableEqStr by Mine.e0
name_quick tw3424931102881643321 for PySem.instDecidableEqStr by Mine.e0
name_quick tw5349121933718820234 for PySem.instDecidableEqStr by Mine.e0
name_quick tw9136488742655976645 for PySem.instDecidableEqStr by Mine.e0
name_quick tw15919542637913265678 for PySem.instDecidableEqStr by Mine.e0
name_quick tw15980859228951719591 for PySem.instDecidableEqStr by Mine.e0
name_quick tw17532440430192770315 for PySem.instDecidableEqStr by Mine.e0
name_quick tw2670528217467546775 for PySem.instDecidableEqStr by Mine.e0
name_quick tw2478078296215019888 for PySem.instDecidableEqStr by Mine.e0
name_quick tw11964429278604863157 for PySem.instDecidableEqStr by Mine.e0
name_quick tw2611137233208623240 for PySem.instDecidableEqStr by Mine.e0
name_quick tw3105397867545767578 for PySem.instDecidableEqStr by Mine.e0
name_quick tw1402947280878808549 for PySem.instDecidableEqStr by Mine.e0
name_quick tw16296994325663420285 for PySem.instDecidableEqStr by Mine.e0
name_quick tw1258299570235058372 for PySem.instDecidableEqStr by Mine.e0
name_quick tw6722154040420286063 for PySem.instDecidableEqStr by Mine.e0
name_quick tw17988542015724977305 for PySem.instDecidableEqStr by Mine.e0
name_quick tw16846860572762119324 for PySem.instDecidableEqStr by Mine.e0
name_quick tw17672482021469178181 for PySem.instDecidableEqStr by Mine.e0
name_quick tw5396446701170858492 for PySem.instDecidableEqStr by Mine.e0
name_quick tw6679490504615227074 for PySem.instDecidableEqStr by Mine.e0
name_quick tw9763268239775435451 for PySem.instDecidableEqStr by Mine.e0
name_quick tw14168537005229113720 for PySem.instDecidableEqStr by Mine.e0
name_quick tw5697894365363955025 for PySem.instDecidableEqStr by Mine.e0
name_quick tw7392212959928792091 for PySem.instDecidableEqStr by Mine.e0
name_quick tw8693227569615203950 for PySem.instDecidableEqStr by Mine.e0
name_quick tw3442601649717412197 for PySem.instDecidableEqStr by Mine.e0
name_quick tw14821650378409806113 for PySem.instDecidableEqStr by Mine.e0
name_quick tw8753696776887207221 for PySem.instDecidableEqStr by Mine.e0
name_quick tw932993149863042379 for PySem.instDecidableEqStr by Mine.e0
name_quick tw3264259588550801142 for PySem.instDecidableEqStr by Mine.e0
name_quick tw11462045893675790159 for PySem.instDecidableEqStr by Mine.e0
name_quick tw18263319221461684349 for PySem.instDecidableEqStr by Mine.e0
name_quick tw6380047634161181297 for PySem.instDecidableEqStr by Mine.e0
name_quick tw14073706353221006472 for PySem.instDecidableEqStr by Mine.e0
name_quick tw13678640442995254988 for PySem.instDecidableEqStr by Mine.e0
name_quick tw1886563365779066154 for PySem.instDecidableEqStr by Mine.e0
name_quick tw1702518465993881591 for PySem.instDecidableEqStr by Mine.e0
name_quick tw12022285260146216970 for PySem.instDecidableEqStr by Mine.e0
name_quick tw8253183596043897158 for PySem.instDecidableEqStr by Mine.e0
name_quick tw6363645014702824404 for PySem.instDecidableEqStr by Mine.e0
name_quick tw8075568018651887793 for PySem.instDecidableEqStr by Mine.e0
name_quick tw17001327861769816259 for PySem.instDecidableEqStr by Mine.e0
name_quick tw14433975572909055671 for PySem.instDecidableEqStr by Mine.e0
name_quick tw5268983451555188008 for PySem.instDecidableEqStr by Mine.e0
name_quick tw17100903815162463580 for PySem.instDecidableEqStr by Mine.e0
name_quick tw15066959818950650227 for PySem.instDecidableEqStr by Mine.e0
name_quick tw4090926877573551719 for PySem.instDecidableEqStr by Mine.e0
name_quick tw12813236842856870187 for PySem.instDecidableEqStr by Mine.e0
name_quick tw13335737130258781183 for PySem.instDecidableEqStr by Mine.e0
name_quick tw1156252341971683116 for PySem.instDecidableEqStr by Mine.e0
name_quick tw12832477231654346042 for PySem.instDecidableEqStr by Mine.e0
name_quick tw9151444980202551346 for PySem.instDecidableEqStr by Mine.e0
name_quick tw313226197891681235 for PySem.instDecidableEqStr by Mine.e0
name_quick tw16018607276475445134 for PySem.instDecidableEqStr by Mine.e0
name_quick tw3152983702415266003 for PySem.instDecidableEqStr by Mine.e0
name_quick tw3436264866546951355 for PySem.instDecidableEqStr by Mine.e0
name_quick tw10942035263794033107 for PySem.instDecidableEqStr by Mine.e0
name_quick tw1706496860858754268 for PySem.instDecidableEqStr by Mine.e0
name_quick tw2862820112641550484 for PySem.instDecidableEqStr by Mine.e0
name_quick tw16878481208292783804 for PySem.instDecidableEqStr by Mine.e0
name_quick tw9396933662098498411 for PySem.instDecidableEqStr by Mine.e0
name_quick tw13254397897704925713 for PySem.instDecidableEqStr by Mine.e0
name_quick tw13776390136698705113 for PySem.instDecidableEqStr by Mine.e0
name_quick tw6550987210724342151 for PySem.instDecidableEqStr by Mine.e0
name_quick tw900395245841561262 for PySem.instDecidableEqStr by Mine.e0
name_quick tw6434265647005701932 for PySem.instDecidableEqStr by Mine.e0
name_quick tw11445135464325071761 for PySem.instDecidableEqStr by Mine.e0
name_quick tw11788150170368784547 for PySem.instDecidableEqStr by Mine.e0
name_quick tw4921902886906138986 for PySem.instDecidableEqStr by Mine.e0
name_quick tw7098571738820278039 for PySem.instDecidableEqStr by Mine.e0
name_quick tw12945451867199242903 for PySem.instDecidableEqStr by Mine.e0
name_quick tw8098380416015320538 for PySem.instDecidableEqStr by Mine.e0
name_quick tw11790162104776037713 for PySem.instDecidableEqStr by Mine.e0
name_quick tw16874561944515371726 for PySem.instDecidableEqStr by Mine.e0
name_quick tw7401281599722004195 for PySem.instDecidableEqStr by Mine.e0
name_quick tw11310463157757771331 for PySem.instDecidableEqStr by Mine.e0
name_quick tw4525517667737911620 for PySem.instDecidableEqStr by Mine.e0
name_quick tw16697116713213952808 for PySem.instDecidableEqStr by Mine.e0
name_quick tw608726401823008365 for PySem.instDecidableEqStr by Mine.e0
name_quick tw5345256250457102556 for PySem.instDecidableEqStr by Mine.e0
name_quick tw878741703135273975 for PySem.instDecidableEqStr by Mine.e0
name_quick tw5770868932273138760 for PySem.instDecidableEqStr by Mine.e0
name_quick tw5248340912204065574 for PySem.instDecidableEqStr by Mine.e0
name_quick tw1962928258387122110 for PySem.instDecidableEqStr by Mine.e0
name_quick tw9315938663221665524 for PySem.instDecidableEqStr by Mine.e0
name_quick tw10996506086634736982 for PySem.instDecidableEqStr by Mine.e0
name_quick tw6059929106960060952 for PySem.instDecidableEqStr by Mine.e0
name_quick tw1333364371103165705 for PySem.instDecidableEqStr by Mine.e0
name_quick tw12237943961548833269 for PySem.instDecidableEqStr by Mine.e0
name_quick tw13642483538084851733 for PySem.instDecidableEqStr by Mine.e0
name_quick tw15663404670287596823 for PySem.instDecidableEqStr by Mine.e0
name_quick tw8603108125212654177 for PySem.instDecidableEqStr by Mine.e0
name_quick tw11994158751524154303 for PySem.instDecidableEqStr by Mine.e0
name_quick tw4039474712603431140 for PySem.instDecidableEqStr by Mine.e0
name_quick tw13615603153576403970 for PySem.instDecidableEqStr by Mine.e0
name_quick tw1218959903707654005 for PySem.instDecidableEqStr by Mine.e0
name_quick tw11863081143760314161 for PySem.instDecidableEqStr by Mine.e0
name_quick tw10205541121877940668 for PySem.instDecidableEqStr by Mine.e0
name_quick tw7299303143086499733 for PySem.instDecidableEqStr by Mine.e0
name_quick tw7365555872484859036 for PySem.instDecidableEqStr by Mine.e0
name_quick tw16916688483869632129 for PySem.instDecidableEqStr by Mine.e0
name_quick tw17828083071136270317 for PySem.instDecidableEqStr by Mine.e0
name_quick tw8703263022893421829 for PySem.instDecidableEqStr by Mine.e0
name_quick tw6434138532213402376 for PySem.instDecidableEqStr by Mine.e0
name_quick tw14553827428707814869 for PySem.instDecidableEqStr by Mine.e0
name_quick tw1620339239838986703 for PySem.instDecidableEqStr by Mine.e0
name_quick tw3039592710220408265 for PySem.instDecidableEqStr by Mine.e0
name_quick tw2660918139993853925 for PySem.instDecidableEqStr by Mine.e0
name_quick tw7581352650102555174 for PySem.instDecidableEqStr by Mine.e0
name_quick tw558745408833754511 for PySem.instDecidableEqStr by Mine.e0
name_quick tw17532718790514356516 for PySem.instDecidableEqStr by Mine.e0
name_quick tw10833955939284561965 for PySem.instDecidableEqStr by Mine.e0
name_quick tw15323854079317868165 for PySem.instDecidableEqStr by Mine.e0
name_quick tw13141144453892091621 for PySem.instDecidableEqStr by Mine.e0
name_quick tw9948023125614773506 for PySem.instDecidableEqStr by Mine.e0
name_quick tw4933834842325187142 for PySem.instDecidableEqStr by Mine.e0
name_quick tw10938465397075749097 for PySem.instDecidableEqStr by Mine.e0
name_quick tw721709456127091705 for PySem.instDecidableEqStr by Mine.e0
name_quick tw3118938333895590913 for PySem.instDecidableEqStr by Mine.e0
name_quick tw11682084944484805031 for PySem.instDecidableEqStr by Mine.e0
name_quick tw17730428716208468724 for PySem.instDecidableEqStr by Mine.e0
name_quick tw1414301608579184545 for PySem.instDecidableEqStr by Mine.e0
name_quick tw14223099787259518943 for PySem.instDecidableEqStr by Mine.e0
name_quick tw17018628822417861297 for PySem.instDecidableEqStr by Mine.e0
name_quick tw15475462885187679331 for PySem.instDecidableEqStr by Mine.e0
name_quick tw3636048126100218174 for PySem.instDecidableEqStr by Mine.e0
name_quick tw8595292554425487202 for PySem.instDecidableEqStr by Mine.e0
name_quick tw11985326045990495214 for PySem.instDecidableEqStr by Mine.e0
name_quick tw12177639751122801600 for PySem.instDecidableEqStr by Mine.e0
name_quick tw5925582254088234700 for PySem.instDecidableEqStr by Mine.e0
name_quick tw11796506867022685745 for PySem.instDecidableEqStr by Mine.e0
name_quick tw6929956602132211858 for PySem.instDecidableEqStr by Mine.e0
name_quick tw1345238157095803546 for PySem.instDecidableEqStr by Mine.e0
name_quick tw16979880578912567463 for PySem.instDecidableEqStr by Mine.e0
name_quick tw13236226663087606529 for PySem.instDecidableEqStr by Mine.e0
name_quick tw12981051755390344553 for PySem.instDecidableEqStr by Mine.e0
name_quick tw17057272898397164401 for PySem.instDecidableEqStr by Mine.e0
name_quick tw12392613427281201732 for PySem.instDecidableEqStr by Mine.e0
name_quick tw392140993173905013 for PySem.instDecidableEqStr by Mine.e0
name_quick tw7504490480230193789 for PySem.instDecidableEqStr by Mine.e0
name_quick tw18056578402003937789 for PySem.instDecidableEqStr by Mine.e0
name_quick tw7286323032743288035 for PySem.instDecidableEqStr by Mine.e0
name_quick tw8119918657739134586 for PySem.instDecidableEqStr by Mine.e0
name_quick tw18416463498863911781 for PySem.instDecidableEqStr by Mine.e0
name_quick tw11636919720809706868 for PySem.instDecidableEqStr by Mine.e0
name_quick tw12371321757623732685 for PySem.instDecidableEqStr by Mine.e0
name_quick tw11892598404827812706 for PySem.instDecidableEqStr by Mine.e0
name_quick tw8537084889766193716 for PySem.instDecidableEqStr by Mine.e0
name_quick tw17497748084772794779 for PySem.instDecidableEqStr by Mine.e0
name_quick tw4071324889030633612 for PySem.instDecidableEqStr by Mine.e0
name_quick tw12172078356533094185 for PySem.instDecidableEqStr by Mine.e0
name_quick tw3131671291697673992 for PySem.instDecidableEqStr by Mine.e0
name_quick tw662354867322794072 for PySem.instDecidableEqStr by Mine.e0
name_quick tw15376083050721069600 for PySem.instDecidableEqStr by Mine.e0
name_quick tw4901318299020614408 for PySem.instDecidableEqStr by Mine.e0
name_quick tw15112985482279097393 for PySem.instDecidableEqStr by Mine.e0
name_quick tw12635297910168745909 for PySem.instDecidableEqStr by Mine.e0
name_quick tw18340240734955500558 for PySem.instDecidableEqStr by Mine.e0
name_quick tw13002492023102617099 for PySem.instDecidableEqStr by Mine.e0
name_quick tw16437185098154296904 for PySem.instDecidableEqStr by Mine.e0
name_quick tw13559156169165276386 for PySem.instDecidableEqStr by Mine.e0
name_quick tw3386650904741475044 for PySem.instDecidableEqStr by Mine.e0
name_quick tw2951486255847992690 for PySem.instDecidableEqStr by Mine.e0
name_quick tw12850107946570832962 for PySem.instDecidableEqStr by Mine.e0
name_quick tw4558998842232669794 for PySem.instDecidableEqStr by Mine.e0
name_quick tw7892128664451923741 for PySem.instDecidableEqStr by Mine.e0
name_quick tw2664551874359636763 for PySem.instDecidableEqStr by Mine.e0
name_quick tw1638017585896720355 for PySem.instDecidableEqStr by Mine.e0
name_quick tw8400853705098224536 for PySem.instDecidableEqStr by Mine.e0
name_quick tw9951705424602377420 for PySem.instDecidableEqStr by Mine.e0
name_quick tw4552823106982906706 for PySem.instDecidableEqStr by Mine.e0
name_quick tw2039238271031011813 for PySem.instDecidableEqStr by Mine.e0
name_quick tw13759679279233594173 for PySem.instDecidableEqStr by Mine.e0
name_quick tw10706342367453228570 for PySem.instDecidableEqStr by Mine.e0
name_quick tw6448080314894763839 for PySem.instDecidableEqStr by Mine.e0
name_quick tw2447775223705975068 for PySem.instDecidableEqStr by Mine.e0
name_quick tw15542503528162795033 for PySem.instDecidableEqStr by Mine.e0
name_quick tw4679858250743294509 for PySem.instDecidableEqStr by Mine.e0
name_quick tw3306185631391853384 for PySem.instDecidableEqStr by Mine.e0
name_quick tw12329403913580668285 for PySem.instDecidableEqStr by Mine.e0
name_quick tw13145125596335152023 for PySem.instDecidableEqStr by Mine.e0
name_quick tw11707433790658880453 for PySem.instDecidableEqStr by Mine.e0
name_quick tw441327347791068078 for PySem.instDecidableEqStr by Mine.e0
name_quick tw9908251947323293946 for PySem.instDecidableEqStr by Mine.e0
name_quick tw5032809538720368765 for PySem.instDecidableEqStr by Mine.e0
name_quick tw18345786424863182364 for PySem.instDecidableEqStr by Mine.e0
name_quick tw505943868828395459 for PySem.instDecidableEqStr by Mine.e0
name_quick tw9407582987413476825 for PySem.instDecidableEqStr by Mine.e0
name_quick tw6792406925840432001 for PySem.instDecidableEqStr by Mine.e0
name_quick tw7276740287692124622 for PySem.instDecidableEqStr by Mine.e0
name_quick tw9626621113073979434 for PySem.instDecidableEqStr by Mine.e0
name_quick tw1092655722715705105 for PySem.instDecidableEqStr by Mine.e0
name_quick tw15766043655864335149 for PySem.instDecidableEqStr by Mine.e0
name_quick tw14224011070414065920 for PySem.instDecidableEqStr by Mine.e0
name_quick tw14210447440969649564 for PySem.instDecidableEqStr by Mine.e0
name_quick tw5701610774189311196 for PySem.instDecidableEqStr by Mine.e0
name_quick tw11317593695737139937 for PySem.instDecidableEqStr by Mine.e0
name_quick tw6817277305950994716 for PySem.instDecidableEqStr by Mine.e0
name_quick tw16349216596472256690 for PySem.instDecidableEqStr by Mine.e0
name_quick tw11420187438672877268 for PySem.instDecidableEqStr by Mine.e0
name_quick tw5111356299099525756 for PySem.instDecidableEqStr by Mine.e0
name_quick tw14112274594779413971 for PySem.instDecidableEqStr by Mine.e0
name_quick tw11939915149646268982 for PySem.instDecidableEqStr by Mine.e0
name_quick tw8642067239939848140 for PySem.instDecidableEqStr by Mine.e0
name_quick tw1302811641713473902 for PySem.instDecidableEqStr by Mine.e0
name_quick tw11013792430000457035 for PySem.instDecidableEqStr by Mine.e0
name_quick tw5518745428033880147 for PySem.instDecidableEqStr by Mine.e0
name_quick tw4748654258956052638 for PySem.instDecidableEqStr by Mine.e0
name_quick tw7745614565497352828 for PySem.instDecidableEqStr by Mine.e0
name_quick tw17537794083376710389 for PySem.instDecidableEqStr by Mine.e0
name_quick tw6683783046931543321 for PySem.instDecidableEqStr by Mine.e0
name_quick tw4797165386629745026 for PySem.instDecidableEqStr by Mine.e0
name_quick tw8727135674562949291 for PySem.instDecidableEqStr by Mine.e0
name_quick tw12022618010286034681 for PySem.instDecidableEqStr by Mine.e0
name_quick tw2599325451414397859 for PySem.instDecidableEqStr by Mine.e0
name_quick tw14979626087600564940 for PySem.instDecidableEqStr by Mine.e0
name_quick tw470574548607681690 for PySem.instDecidableEqStr by Mine.e0
name_quick tw2408619945344806742 for PySem.instDecidableEqStr by Mine.e0
name_quick tw11452132507678324671 for PySem.instDecidableEqStr by Mine.e0
name_quick tw3560238982266916124 for PySem.instDecidableEqStr by Mine.e0
name_quick tw8424611434330503625 for PySem.instDecidableEqStr by Mine.e0
name_quick tw13900631225919944168 for PySem.instDecidableEqStr by Mine.e0
name_quick tw14023627001141898710 for PySem.instDecidableEqStr by Mine.e0
name_quick tw9862997608875712007 for PySem.instDecidableEqStr by Mine.e0
name_quick tw8376441433122354887 for PySem.instDecidableEqStr by Mine.e0
name_quick tw4980102563643897964 for PySem.instDecidableEqStr by Mine.e0
name_quick tw15894407043143930727 for PySem.instDecidableEqStr by Mine.e0
name_quick tw12181479097853683279 for PySem.instDecidableEqStr by Mine.e0
name_quick tw4224760802259116069 for PySem.instDecidableEqStr by Mine.e0
name_quick tw11729385059970357855 for PySem.instDecidableEqStr by Mine.e0
name_quick tw13981391230805400906 for PySem.instDecidableEqStr by Mine.e0
name_quick tw10227693086864044499 for PySem.instDecidableEqStr by Mine.e0
name_quick tw14326252917377295143 for PySem.instDecidableEqStr by Mine.e0
name_quick tw6654550962395885724 for PySem.instDecidableEqStr by Mine.e0
name_quick tw6245536207120538393 for PySem.instDecidableEqStr by Mine.e0
name_quick tw16414604833108395602 for PySem.instDecidableEqStr by Mine.e0
name_quick tw3470799630455053000 for PySem.instDecidableEqStr by Mine.e0
name_quick tw16349804527192203551 for PySem.instDecidableEqStr by Mine.e0
name_quick tw15450981722951097364 for PySem.instDecidableEqStr by Mine.e0
name_quick tw7788680626742099145 for PySem.instDecidableEqStr by Mine.e0
name_quick tw5200128776193632040 for PySem.instDecidableEqStr by Mine.e0
name_quick tw12450158673883907302 for PySem.instDecidableEqStr by Mine.e0
name_quick tw1377046205977697930 for PySem.instDecidableEqStr by Mine.e0
name_quick tw7323676302269181137 for PySem.instDecidableEqStr by Mine.e0
name_quick tw9305782018832362445 for PySem.instDecidableEqStr by Mine.e0
name_quick tw17000458434675057986 for PySem.instDecidableEqStr by Mine.e0
name_quick tw5135500740108067664 for PySem.instDecidableEqStr by Mine.e0
name_quick tw2719445374943340272 for PySem.instDecidableEqStr by Mine.e0
name_quick tw3880421473898291048 for PySem.instDecidableEqStr by Mine.e0
name_quick tw16792545251062261874 for PySem.instDecidableEqStr by Mine.e0
name_quick tw15480198773659482676 for PySem.instDecidableEqStr by Mine.e0
name_quick tw16049961110935095269 for PySem.instDecidableEqStr by Mine.e0
name_quick tw7650934615059315214 for PySem.instDecidableEqStr by Mine.e0
name_quick tw10500077913531017323 for PySem.instDecidableEqStr by Mine.e0
name_quick tw9529234661008812162 for PySem.instDecidableEqStr by Mine.e0
name_quick tw18211773271919218964 for PySem.instDecidableEqStr by Mine.e0
name_quick tw117213463901210413 for PySem.instDecidableEqStr by Mine.e0
name_quick tw17863021456227041891 for PySem.instDecidableEqStr by Mine.e0
name_quick tw4775785305629353868 for PySem.instDecidableEqStr by Mine.e0
name_quick tw10317580896714288900 for PySem.instDecidableEqStr by Mine.e0
name_quick tw14530364306720264245 for PySem.instDecidableEqStr by Mine.e0
name_quick tw5902227825499142635 for PySem.instDecidableEqStr by Mine.e0
name_quick tw8989982439271903415 for PySem.instDecidableEqStr by Mine.e0
name_quick tw3764465048917985505 for PySem.instDecidableEqStr by Mine.e0
name_quick tw17279654841073493023 for PySem.instDecidableEqStr by Mine.e0
name_quick tw9800571698397750058 for PySem.instDecidableEqStr by Mine.e0
name_quick tw11566699232636054958 for PySem.instDecidableEqStr by Mine.e0
name_quick tw10424941004445345732 for PySem.instDecidableEqStr by Mine.e0
name_quick tw16176465441171805009 for PySem.instDecidableEqStr by Mine.e0
name_quick tw13512673800721320934 for PySem.instDecidableEqStr by Mine.e0
set_option maxHeartbeats 8000000 in
open_top hd for PySem.Challenge.rw_nz0491_01
theorem faC {α : Type _} {P : α → Prop} {a : α} {l : List α} (h : P a) (t : ∀ x ∈ l, P x) : ∀ x ∈ a :: l, P x := List.forall_mem_cons.mpr (And.intro h t)
theorem i10_11 {α0 : Sort _} {α1 : Sort _} {α2 : Sort _} {α3 : Sort _} {α4 : Sort _} {α5 : Sort _} {α6 : Sort _} {α7 : Sort _} {α8 : Sort _} {α9 : Sort _} {p0 p1 p2 p3 p4 p5 p6 p7 p8 p9 p10 : α0 → α1 → α2 → α3 → α4 → α5 → α6 → α7 → α8 → α9 → Prop} (a0 : α0) (a1 : α1) (a2 : α2) (a3 : α3) (a4 : α4) (a5 : α5) (a6 : α6) (a7 : α7) (a8 : α8) (a9 : α9) (h0 : p0 a0 a1 a2 a3 a4 a5 a6 a7 a8 a9) (h1 : p1 a0 a1 a2 a3 a4 a5 a6 a7 a8 a9) (h2 : p2 a0 a1 a2 a3 a4 a5 a6 a7 a8 a9) (h3 : p3 a0 a1 a2 a3 a4 a5 a6 a7 a8 a9) (h4 : p4 a0 a1 a2 a3 a4 a5 a6 a7 a8 a9) (h5 : p5 a0 a1 a2 a3 a4 a5 a6 a7 a8 a9) (h6 : p6 a0 a1 a2 a3 a4 a5 a6 a7 a8 a9) (h7 : p7 a0 a1 a2 a3 a4 a5 a6 a7 a8 a9) (h8 : p8 a0 a1 a2 a3 a4 a5 a6 a7 a8 a9) (h9 : p9 a0 a1 a2 a3 a4 a5 a6 a7 a8 a9) (h10 : p10 a0 a1 a2 a3 a4 a5 a6 a7 a8 a9) : ∃ a0 a1 a2 a3 a4 a5 a6 a7 a8 a9, p0 a0 a1 a2 a3 a4 a5 a6 a7 a8 a9 ∧ p1 a0 a1 a2 a3 a4 a5 a6 a7 a8 a9 ∧ p2 a0 a1 a2 a3 a4 a5 a6 a7 a8 a9 ∧ p3 a0 a1 a2 a3 a4 a5 a6 a7 a8 a9 ∧ p4 a0 a1 a2 a3 a4 a5 a6 a7 a8 a9 ∧ p5 a0 a1 a2 a3 a4 a5 a6 a7 a8 a9 ∧ p6 a0 a1 a2 a3 a4 a5 a6 a7 a8 a9 ∧ p7 a0 a1 a2 a3 a4 a5 a6 a7 a8 a9 ∧ p8 a0 a1 a2 a3 a4 a5 a6 a7 a8 a9 ∧ p9 a0 a1 a2 a3 a4 a5 a6 a7 a8 a9 ∧ p10 a0 a1 a2 a3 a4 a5 a6 a7 a8 a9 := ⟨a0, a1, a2, a3, a4, a5, a6, a7, a8, a9, h0, h1, h2, h3, h4, h5, h6, h7, h8, h9, h10⟩
theorem i1_4 {α0 : Sort _} {p0 p1 p2 p3 : α0 → Prop} (a0 : α0) (h0 : p0 a0) (h1 : p1 a0) (h2 : p2 a0) (h3 : p3 a0) : ∃ a0, p0 a0 ∧ p1 a0 ∧ p2 a0 ∧ p3 a0 := ⟨a0, h0, h1, h2, h3⟩
theorem i9_11 {α0 : Sort _} {α1 : Sort _} {α2 : Sort _} {α3 : Sort _} {α4 : Sort _} {α5 : Sort _} {α6 : Sort _} {α7 : Sort _} {α8 : Sort _} {p0 p1 p2 p3 p4 p5 p6 p7 p8 p9 p10 : α0 → α1 → α2 → α3 → α4 → α5 → α6 → α7 → α8 → Prop} (a0 : α0) (a1 : α1) (a2 : α2) (a3 : α3) (a4 : α4) (a5 : α5) (a6 : α6) (a7 : α7) (a8 : α8) (h0 : p0 a0 a1 a2 a3 a4 a5 a6 a7 a8) (h1 : p1 a0 a1 a2 a3 a4 a5 a6 a7 a8) (h2 : p2 a0 a1 a2 a3 a4 a5 a6 a7 a8) (h3 : p3 a0 a1 a2 a3 a4 a5 a6 a7 a8) (h4 : p4 a0 a1 a2 a3 a4 a5 a6 a7 a8) (h5 : p5 a0 a1 a2 a3 a4 a5 a6 a7 a8) (h6 : p6 a0 a1 a2 a3 a4 a5 a6 a7 a8) (h7 : p7 a0 a1 a2 a3 a4 a5 a6 a7 a8) (h8 : p8 a0 a1 a2 a3 a4 a5 a6 a7 a8) (h9 : p9 a0 a1 a2 a3 a4 a5 a6 a7 a8) (h10 : p10 a0 a1 a2 a3 a4 a5 a6 a7 a8) : ∃ a0 a1 a2 a3 a4 a5 a6 a7 a8, p0 a0 a1 a2 a3 a4 a5 a6 a7 a8 ∧ p1 a0 a1 a2 a3 a4 a5 a6 a7 a8 ∧ p2 a0 a1 a2 a3 a4 a5 a6 a7 a8 ∧ p3 a0 a1 a2 a3 a4 a5 a6 a7 a8 ∧ p4 a0 a1 a2 a3 a4 a5 a6 a7 a8 ∧ p5 a0 a1 a2 a3 a4 a5 a6 a7 a8 ∧ p6 a0 a1 a2 a3 a4 a5 a6 a7 a8 ∧ p7 a0 a1 a2 a3 a4 a5 a6 a7 a8 ∧ p8 a0 a1 a2 a3 a4 a5 a6 a7 a8 ∧ p9 a0 a1 a2 a3 a4 a5 a6 a7 a8 ∧ p10 a0 a1 a2 a3 a4 a5 a6 a7 a8 := ⟨a0, a1, a2, a3, a4, a5, a6, a7, a8, h0, h1, h2, h3, h4, h5, h6, h7, h8, h9, h10⟩
theorem x0_2  {p0 p1 : Prop} {P : Prop} (h : p0 ∧ p1) (k : p0 → p1 → P) : P := by
  obtain ⟨h0, h1⟩ := h
  exact k h0 h1
theorem x0_3  {p0 p1 p2 : Prop} {P : Prop} (h : p0 ∧ p1 ∧ p2) (k : p0 → p1 → p2 → P) : P := by
  obtain ⟨h0, h1, h2⟩ := h
  exact k h0 h1 h2
theorem x0_4  {p0 p1 p2 p3 : Prop} {P : Prop} (h : p0 ∧ p1 ∧ p2 ∧ p3) (k : p0 → p1 → p2 → p3 → P) : P := by
  obtain ⟨h0, h1, h2, h3⟩ := h
  exact k h0 h1 h2 h3
theorem x1_1 {α0 : Sort _} {p0 : α0 → Prop} {P : Prop} (h : ∃ a0, p0 a0) (k : ∀ a0, p0 a0 → P) : P := by
  obtain ⟨a0, h0⟩ := h
  exact k a0 h0
theorem x1_2 {α0 : Sort _} {p0 p1 : α0 → Prop} {P : Prop} (h : ∃ a0, p0 a0 ∧ p1 a0) (k : ∀ a0, p0 a0 → p1 a0 → P) : P := by
  obtain ⟨a0, h0, h1⟩ := h
  exact k a0 h0 h1
theorem x1_3 {α0 : Sort _} {p0 p1 p2 : α0 → Prop} {P : Prop} (h : ∃ a0, p0 a0 ∧ p1 a0 ∧ p2 a0) (k : ∀ a0, p0 a0 → p1 a0 → p2 a0 → P) : P := by
  obtain ⟨a0, h0, h1, h2⟩ := h
  exact k a0 h0 h1 h2
theorem x2_1 {α0 : Sort _} {α1 : Sort _} {p0 : α0 → α1 → Prop} {P : Prop} (h : ∃ a0 a1, p0 a0 a1) (k : ∀ a0 a1, p0 a0 a1 → P) : P := by
  obtain ⟨a0, a1, h0⟩ := h
  exact k a0 a1 h0
theorem x2_2 {α0 : Sort _} {α1 : Sort _} {p0 p1 : α0 → α1 → Prop} {P : Prop} (h : ∃ a0 a1, p0 a0 a1 ∧ p1 a0 a1) (k : ∀ a0 a1, p0 a0 a1 → p1 a0 a1 → P) : P := by
  obtain ⟨a0, a1, h0, h1⟩ := h
  exact k a0 a1 h0 h1
theorem x2_3 {α0 : Sort _} {α1 : Sort _} {p0 p1 p2 : α0 → α1 → Prop} {P : Prop} (h : ∃ a0 a1, p0 a0 a1 ∧ p1 a0 a1 ∧ p2 a0 a1) (k : ∀ a0 a1, p0 a0 a1 → p1 a0 a1 → p2 a0 a1 → P) : P := by
  obtain ⟨a0, a1, h0, h1, h2⟩ := h
  exact k a0 a1 h0 h1 h2
theorem x2_4 {α0 : Sort _} {α1 : Sort _} {p0 p1 p2 p3 : α0 → α1 → Prop} {P : Prop} (h : ∃ a0 a1, p0 a0 a1 ∧ p1 a0 a1 ∧ p2 a0 a1 ∧ p3 a0 a1) (k : ∀ a0 a1, p0 a0 a1 → p1 a0 a1 → p2 a0 a1 → p3 a0 a1 → P) : P := by
  obtain ⟨a0, a1, h0, h1, h2, h3⟩ := h
  exact k a0 a1 h0 h1 h2 h3
theorem x3_1 {α0 : Sort _} {α1 : Sort _} {α2 : Sort _} {p0 : α0 → α1 → α2 → Prop} {P : Prop} (h : ∃ a0 a1 a2, p0 a0 a1 a2) (k : ∀ a0 a1 a2, p0 a0 a1 a2 → P) : P := by
  obtain ⟨a0, a1, a2, h0⟩ := h
  exact k a0 a1 a2 h0
theorem x3_2 {α0 : Sort _} {α1 : Sort _} {α2 : Sort _} {p0 p1 : α0 → α1 → α2 → Prop} {P : Prop} (h : ∃ a0 a1 a2, p0 a0 a1 a2 ∧ p1 a0 a1 a2) (k : ∀ a0 a1 a2, p0 a0 a1 a2 → p1 a0 a1 a2 → P) : P := by
  obtain ⟨a0, a1, a2, h0, h1⟩ := h
  exact k a0 a1 a2 h0 h1
theorem x4_5 {α0 : Sort _} {α1 : Sort _} {α2 : Sort _} {α3 : Sort _} {p0 p1 p2 p3 p4 : α0 → α1 → α2 → α3 → Prop} {P : Prop} (h : ∃ a0 a1 a2 a3, p0 a0 a1 a2 a3 ∧ p1 a0 a1 a2 a3 ∧ p2 a0 a1 a2 a3 ∧ p3 a0 a1 a2 a3 ∧ p4 a0 a1 a2 a3) (k : ∀ a0 a1 a2 a3, p0 a0 a1 a2 a3 → p1 a0 a1 a2 a3 → p2 a0 a1 a2 a3 → p3 a0 a1 a2 a3 → p4 a0 a1 a2 a3 → P) : P := by
  obtain ⟨a0, a1, a2, a3, h0, h1, h2, h3, h4⟩ := h
  exact k a0 a1 a2 a3 h0 h1 h2 h3 h4
theorem x5_6 {α0 : Sort _} {α1 : Sort _} {α2 : Sort _} {α3 : Sort _} {α4 : Sort _} {p0 p1 p2 p3 p4 p5 : α0 → α1 → α2 → α3 → α4 → Prop} {P : Prop} (h : ∃ a0 a1 a2 a3 a4, p0 a0 a1 a2 a3 a4 ∧ p1 a0 a1 a2 a3 a4 ∧ p2 a0 a1 a2 a3 a4 ∧ p3 a0 a1 a2 a3 a4 ∧ p4 a0 a1 a2 a3 a4 ∧ p5 a0 a1 a2 a3 a4) (k : ∀ a0 a1 a2 a3 a4, p0 a0 a1 a2 a3 a4 → p1 a0 a1 a2 a3 a4 → p2 a0 a1 a2 a3 a4 → p3 a0 a1 a2 a3 a4 → p4 a0 a1 a2 a3 a4 → p5 a0 a1 a2 a3 a4 → P) : P := by
  obtain ⟨a0, a1, a2, a3, a4, h0, h1, h2, h3, h4, h5⟩ := h
  exact k a0 a1 a2 a3 a4 h0 h1 h2 h3 h4 h5
theorem x6_8 {α0 : Sort _} {α1 : Sort _} {α2 : Sort _} {α3 : Sort _} {α4 : Sort _} {α5 : Sort _} {p0 p1 p2 p3 p4 p5 p6 p7 : α0 → α1 → α2 → α3 → α4 → α5 → Prop} {P : Prop} (h : ∃ a0 a1 a2 a3 a4 a5, p0 a0 a1 a2 a3 a4 a5 ∧ p1 a0 a1 a2 a3 a4 a5 ∧ p2 a0 a1 a2 a3 a4 a5 ∧ p3 a0 a1 a2 a3 a4 a5 ∧ p4 a0 a1 a2 a3 a4 a5 ∧ p5 a0 a1 a2 a3 a4 a5 ∧ p6 a0 a1 a2 a3 a4 a5 ∧ p7 a0 a1 a2 a3 a4 a5) (k : ∀ a0 a1 a2 a3 a4 a5, p0 a0 a1 a2 a3 a4 a5 → p1 a0 a1 a2 a3 a4 a5 → p2 a0 a1 a2 a3 a4 a5 → p3 a0 a1 a2 a3 a4 a5 → p4 a0 a1 a2 a3 a4 a5 → p5 a0 a1 a2 a3 a4 a5 → p6 a0 a1 a2 a3 a4 a5 → p7 a0 a1 a2 a3 a4 a5 → P) : P := by
  obtain ⟨a0, a1, a2, a3, a4, a5, h0, h1, h2, h3, h4, h5, h6, h7⟩ := h
  exact k a0 a1 a2 a3 a4 a5 h0 h1 h2 h3 h4 h5 h6 h7
theorem x7_11 {α0 : Sort _} {α1 : Sort _} {α2 : Sort _} {α3 : Sort _} {α4 : Sort _} {α5 : Sort _} {α6 : Sort _} {p0 p1 p2 p3 p4 p5 p6 p7 p8 p9 p10 : α0 → α1 → α2 → α3 → α4 → α5 → α6 → Prop} {P : Prop} (h : ∃ a0 a1 a2 a3 a4 a5 a6, p0 a0 a1 a2 a3 a4 a5 a6 ∧ p1 a0 a1 a2 a3 a4 a5 a6 ∧ p2 a0 a1 a2 a3 a4 a5 a6 ∧ p3 a0 a1 a2 a3 a4 a5 a6 ∧ p4 a0 a1 a2 a3 a4 a5 a6 ∧ p5 a0 a1 a2 a3 a4 a5 a6 ∧ p6 a0 a1 a2 a3 a4 a5 a6 ∧ p7 a0 a1 a2 a3 a4 a5 a6 ∧ p8 a0 a1 a2 a3 a4 a5 a6 ∧ p9 a0 a1 a2 a3 a4 a5 a6 ∧ p10 a0 a1 a2 a3 a4 a5 a6) (k : ∀ a0 a1 a2 a3 a4 a5 a6, p0 a0 a1 a2 a3 a4 a5 a6 → p1 a0 a1 a2 a3 a4 a5 a6 → p2 a0 a1 a2 a3 a4 a5 a6 → p3 a0 a1 a2 a3 a4 a5 a6 → p4 a0 a1 a2 a3 a4 a5 a6 → p5 a0 a1 a2 a3 a4 a5 a6 → p6 a0 a1 a2 a3 a4 a5 a6 → p7 a0 a1 a2 a3 a4 a5 a6 → p8 a0 a1 a2 a3 a4 a5 a6 → p9 a0 a1 a2 a3 a4 a5 a6 → p10 a0 a1 a2 a3 a4 a5 a6 → P) : P := by
  obtain ⟨a0, a1, a2, a3, a4, a5, a6, h0, h1, h2, h3, h4, h5, h6, h7, h8, h9, h10⟩ := h
  exact k a0 a1 a2 a3 a4 a5 a6 h0 h1 h2 h3 h4 h5 h6 h7 h8 h9 h10
theorem x9_2 {α0 : Sort _} {α1 : Sort _} {α2 : Sort _} {α3 : Sort _} {α4 : Sort _} {α5 : Sort _} {α6 : Sort _} {α7 : Sort _} {α8 : Sort _} {p0 p1 : α0 → α1 → α2 → α3 → α4 → α5 → α6 → α7 → α8 → Prop} {P : Prop} (h : ∃ a0 a1 a2 a3 a4 a5 a6 a7 a8, p0 a0 a1 a2 a3 a4 a5 a6 a7 a8 ∧ p1 a0 a1 a2 a3 a4 a5 a6 a7 a8) (k : ∀ a0 a1 a2 a3 a4 a5 a6 a7 a8, p0 a0 a1 a2 a3 a4 a5 a6 a7 a8 → p1 a0 a1 a2 a3 a4 a5 a6 a7 a8 → P) : P := by
  obtain ⟨a0, a1, a2, a3, a4, a5, a6, a7, a8, h0, h1⟩ := h
  exact k a0 a1 a2 a3 a4 a5 a6 a7 a8 h0 h1
theorem x9_3 {α0 : Sort _} {α1 : Sort _} {α2 : Sort _} {α3 : Sort _} {α4 : Sort _} {α5 : Sort _} {α6 : Sort _} {α7 : Sort _} {α8 : Sort _} {p0 p1 p2 : α0 → α1 → α2 → α3 → α4 → α5 → α6 → α7 → α8 → Prop} {P : Prop} (h : ∃ a0 a1 a2 a3 a4 a5 a6 a7 a8, p0 a0 a1 a2 a3 a4 a5 a6 a7 a8 ∧ p1 a0 a1 a2 a3 a4 a5 a6 a7 a8 ∧ p2 a0 a1 a2 a3 a4 a5 a6 a7 a8) (k : ∀ a0 a1 a2 a3 a4 a5 a6 a7 a8, p0 a0 a1 a2 a3 a4 a5 a6 a7 a8 → p1 a0 a1 a2 a3 a4 a5 a6 a7 a8 → p2 a0 a1 a2 a3 a4 a5 a6 a7 a8 → P) : P := by
  obtain ⟨a0, a1, a2, a3, a4, a5, a6, a7, a8, h0, h1, h2⟩ := h
  exact k a0 a1 a2 a3 a4 a5 a6 a7 a8 h0 h1 h2
theorem y0_1 {ρ : Sort _}  {f : ρ} {p0 : Prop} {P : ρ → Prop} (k : p0 → P (f)) : ∀ r : ρ, (r = f ∧ p0) → P r := by
  intro r h
  obtain ⟨e0, h0⟩ := h
  subst e0
  exact k h0
theorem y0_2 {ρ : Sort _}  {f : ρ} {p0 p1 : Prop} {P : ρ → Prop} (k : p0 → p1 → P (f)) : ∀ r : ρ, (r = f ∧ p0 ∧ p1) → P r := by
  intro r h
  obtain ⟨e0, h0, h1⟩ := h
  subst e0
  exact k h0 h1
theorem y1_0 {ρ : Sort _} {α0 : Sort _} {f : α0 → ρ} {P : ρ → Prop} (k : ∀ a0, P (f a0)) : ∀ r : ρ, (∃ a0, r = f a0) → P r := by
  intro r h
  obtain ⟨a0, e0⟩ := h
  subst e0
  exact k a0
theorem y1_1 {ρ : Sort _} {α0 : Sort _} {f : α0 → ρ} {p0 : α0 → Prop} {P : ρ → Prop} (k : ∀ a0, p0 a0 → P (f a0)) : ∀ r : ρ, (∃ a0, r = f a0 ∧ p0 a0) → P r := by
  intro r h
  obtain ⟨a0, e0, h0⟩ := h
  subst e0
  exact k a0 h0
theorem y1_3 {ρ : Sort _} {α0 : Sort _} {f : α0 → ρ} {p0 p1 p2 : α0 → Prop} {P : ρ → Prop} (k : ∀ a0, p0 a0 → p1 a0 → p2 a0 → P (f a0)) : ∀ r : ρ, (∃ a0, r = f a0 ∧ p0 a0 ∧ p1 a0 ∧ p2 a0) → P r := by
  intro r h
  obtain ⟨a0, e0, h0, h1, h2⟩ := h
  subst e0
  exact k a0 h0 h1 h2
theorem y2_2 {ρ : Sort _} {α0 : Sort _} {α1 : Sort _} {f : α0 → α1 → ρ} {p0 p1 : α0 → α1 → Prop} {P : ρ → Prop} (k : ∀ a0 a1, p0 a0 a1 → p1 a0 a1 → P (f a0 a1)) : ∀ r : ρ, (∃ a0 a1, r = f a0 a1 ∧ p0 a0 a1 ∧ p1 a0 a1) → P r := by
  intro r h
  obtain ⟨a0, a1, e0, h0, h1⟩ := h
  subst e0
  exact k a0 a1 h0 h1
theorem y3_2 {ρ : Sort _} {α0 : Sort _} {α1 : Sort _} {α2 : Sort _} {f : α0 → α1 → α2 → ρ} {p0 p1 : α0 → α1 → α2 → Prop} {P : ρ → Prop} (k : ∀ a0 a1 a2, p0 a0 a1 a2 → p1 a0 a1 a2 → P (f a0 a1 a2)) : ∀ r : ρ, (∃ a0 a1 a2, r = f a0 a1 a2 ∧ p0 a0 a1 a2 ∧ p1 a0 a1 a2) → P r := by
  intro r h
  obtain ⟨a0, a1, a2, e0, h0, h1⟩ := h
  subst e0
  exact k a0 a1 a2 h0 h1
theorem y3_4 {ρ : Sort _} {α0 : Sort _} {α1 : Sort _} {α2 : Sort _} {f : α0 → α1 → α2 → ρ} {p0 p1 p2 p3 : α0 → α1 → α2 → Prop} {P : ρ → Prop} (k : ∀ a0 a1 a2, p0 a0 a1 a2 → p1 a0 a1 a2 → p2 a0 a1 a2 → p3 a0 a1 a2 → P (f a0 a1 a2)) : ∀ r : ρ, (∃ a0 a1 a2, r = f a0 a1 a2 ∧ p0 a0 a1 a2 ∧ p1 a0 a1 a2 ∧ p2 a0 a1 a2 ∧ p3 a0 a1 a2) → P r := by
  intro r h
  obtain ⟨a0, a1, a2, e0, h0, h1, h2, h3⟩ := h
  subst e0
  exact k a0 a1 a2 h0 h1 h2 h3
theorem y4_2 {ρ : Sort _} {α0 : Sort _} {α1 : Sort _} {α2 : Sort _} {α3 : Sort _} {f : α0 → α1 → α2 → α3 → ρ} {p0 p1 : α0 → α1 → α2 → α3 → Prop} {P : ρ → Prop} (k : ∀ a0 a1 a2 a3, p0 a0 a1 a2 a3 → p1 a0 a1 a2 a3 → P (f a0 a1 a2 a3)) : ∀ r : ρ, (∃ a0 a1 a2 a3, r = f a0 a1 a2 a3 ∧ p0 a0 a1 a2 a3 ∧ p1 a0 a1 a2 a3) → P r := by
  intro r h
  obtain ⟨a0, a1, a2, a3, e0, h0, h1⟩ := h
  subst e0
  exact k a0 a1 a2 a3 h0 h1
theorem y4_3 {ρ : Sort _} {α0 : Sort _} {α1 : Sort _} {α2 : Sort _} {α3 : Sort _} {f : α0 → α1 → α2 → α3 → ρ} {p0 p1 p2 : α0 → α1 → α2 → α3 → Prop} {P : ρ → Prop} (k : ∀ a0 a1 a2 a3, p0 a0 a1 a2 a3 → p1 a0 a1 a2 a3 → p2 a0 a1 a2 a3 → P (f a0 a1 a2 a3)) : ∀ r : ρ, (∃ a0 a1 a2 a3, r = f a0 a1 a2 a3 ∧ p0 a0 a1 a2 a3 ∧ p1 a0 a1 a2 a3 ∧ p2 a0 a1 a2 a3) → P r := by
  intro r h
  obtain ⟨a0, a1, a2, a3, e0, h0, h1, h2⟩ := h
  subst e0
  exact k a0 a1 a2 a3 h0 h1 h2
theorem y6_6 {ρ : Sort _} {α0 : Sort _} {α1 : Sort _} {α2 : Sort _} {α3 : Sort _} {α4 : Sort _} {α5 : Sort _} {f : α0 → α1 → α2 → α3 → α4 → α5 → ρ} {p0 p1 p2 p3 p4 p5 : α0 → α1 → α2 → α3 → α4 → α5 → Prop} {P : ρ → Prop} (k : ∀ a0 a1 a2 a3 a4 a5, p0 a0 a1 a2 a3 a4 a5 → p1 a0 a1 a2 a3 a4 a5 → p2 a0 a1 a2 a3 a4 a5 → p3 a0 a1 a2 a3 a4 a5 → p4 a0 a1 a2 a3 a4 a5 → p5 a0 a1 a2 a3 a4 a5 → P (f a0 a1 a2 a3 a4 a5)) : ∀ r : ρ, (∃ a0 a1 a2 a3 a4 a5, r = f a0 a1 a2 a3 a4 a5 ∧ p0 a0 a1 a2 a3 a4 a5 ∧ p1 a0 a1 a2 a3 a4 a5 ∧ p2 a0 a1 a2 a3 a4 a5 ∧ p3 a0 a1 a2 a3 a4 a5 ∧ p4 a0 a1 a2 a3 a4 a5 ∧ p5 a0 a1 a2 a3 a4 a5) → P r := by
  intro r h
  obtain ⟨a0, a1, a2, a3, a4, a5, e0, h0, h1, h2, h3, h4, h5⟩ := h
  subst e0
  exact k a0 a1 a2 a3 a4 a5 h0 h1 h2 h3 h4 h5

abbrev PG : Program := PySem.Challenge.rw_nz0491_01.row.prog

theorem ar_chr {fi e : Int} {i : Nat} (hf : 0 ≤ fi ∧ fi ≤ 8) (he : 1 ≤ e ∧ e ≤ 3) (hi : i < e.toNat) : 97 + fi + (0 + (i : Int)) ≤ 1114111 := by omega
theorem ar_chr0 {fi : Int} {i : Nat} (hf : 0 ≤ fi ∧ fi ≤ 8) : 0 ≤ 97 + fi + (0 + (i : Int)) := by omega
theorem ar_len {l : Nat} {N : Int} (h : l = N.toNat) (h1 : 1 ≤ N) : (l : Int) = N := by rw [h]; exact Int.toNat_of_nonneg (Int.le_trans (by decide) h1)
theorem ar_nat {N : Int} (h : N < 1000) : N.toNat ≤ 16777216 := by omega
theorem ar_hun {l : Nat} {N : Int} (h : l = N.toNat) (h9 : N < 100) : l < 100 := by omega
theorem ar_a {e k : Int} (h : 1 ≤ e ∧ e ≤ k) (hk : decide (k < 1000) = true) : e < 1000 := Int.lt_of_le_of_lt h.2 (of_decide_eq_true hk)
theorem ar_b {e k : Int} (h : 1 ≤ e ∧ e ≤ k) : 0 ≤ e := Int.le_trans (by decide) h.1
theorem ar_c {e k : Int} (h : 1 ≤ e ∧ e ≤ k) (hk : decide (k < 100) = true) : e < 100 := Int.lt_of_le_of_lt h.2 (of_decide_eq_true hk)
theorem ar_i {l i : Nat} {N : Int} (h : i < N.toNat) (hb : N < 100) (e : l = i) : l ≤ 16777216 := by omega
theorem ar_chrL {e k : Int} {i : Nat} (he : 1 ≤ e ∧ e ≤ k) (hk : decide (k < 100000) = true) (hi : i < e.toNat) : 97 + (0 + (i : Int)) ≤ 1114111 := by
  have := of_decide_eq_true hk
  omega
theorem ar_chr00 {i : Nat} : 0 ≤ 97 + (0 + (i : Int)) := by omega
theorem un_room {u n m : Nat} (h : u + (n + 1) < m) : u + 1 + n < m := by omega
theorem un_lt {u n m : Nat} (h : u + (n + 1) < m) : u < m := by omega
theorem ar_row {l i n : Nat} (h : l ≤ 31 * i) (hi : i < n) (hn : n ≤ 40) : l ≤ 16777216 := by omega
theorem ar_row2 {l i j n : Nat} (h : l ≤ 31 * i + 1 + j) (hj : j < 30) (hi : i < n) (hn : n ≤ 40) : l ≤ 16777216 := by omega
theorem ar_row3 {l n : Nat} (h : l ≤ 31 * n) (hn : n ≤ 40) : l ≤ 16777216 := by omega
theorem ar_l63 {l k : Nat} {n N : Int} (e : k = l) (ex : (l : Int) = n) (hn : 1 ≤ n ∧ n ≤ N) (hb : N < 100) : (k : Int) < 2 ^ 63 ∧ 0 < (k : Int) := by omega
theorem ar_l100 {l : Nat} {n N : Int} (ex : (l : Int) = n) (hn : 1 ≤ n ∧ n ≤ N) (hb : N < 100) : l < 100 := by omega
theorem ge_succ {n m : Nat} (h : n + 1 ≤ m) : ∃ k, m = k + 1 ∧ n ≤ k := ⟨m - 1, by omega, by omega⟩

/-- the ground: the written part and the top's facts at the heap that the law is called from -/
structure Gr (w : World) (loose : List Str) (mean : ExcName → Option Value) (mg mb : Str → Option Value) (H₀ : Heap) : Prop where
  X : (Mine.hd.heap_39 w.params).In H₀
  T : Top Mine.hd.view_39 loose mean mg mb H₀

/-- what the heap holds of a list of entries made since the law's call -/
def Val (H₀ H : Heap) (l : List (Addr × Obj)) : Prop := ∀ p ∈ l, H.get? p.1 = some p.2 ∧ H₀.get? p.1 = none
def KeepBut (mods : List Addr) (H H' : Heap) : Prop := ∀ b o, b ∉ mods → H.get? b = some o → H'.get? b = some o

theorem Val.nil {H₀ H : Heap} : Val H₀ H [] := fun _ h => nomatch h
theorem Val.cons {H₀ H : Heap} {a : Addr} {o : Obj} {l : List (Addr × Obj)} (h : H.get? a = some o) (h0 : H₀.get? a = none) (hl : Val H₀ H l) : Val H₀ H ((a, o) :: l) := fun p hp => by
  rcases List.mem_cons.mp hp with rfl | hp
  · exact ⟨h, h0⟩
  · exact hl p hp
theorem Val.sub {H₀ H : Heap} {l l' : List (Addr × Obj)} (h : Val H₀ H l) (hs : ∀ p ∈ l', p ∈ l) : Val H₀ H l' := fun p hp => h p (hs p hp)
theorem Val.pick {H₀ H : Heap} {l l' : List (Addr × Obj)} {a : Addr} {o : Obj} (h : Val H₀ H l) (hm : (a, o) ∈ l) (hl : Val H₀ H l') : Val H₀ H ((a, o) :: l') := .cons (h _ hm).1 (h _ hm).2 hl
theorem Val.app {H₀ H : Heap} {l l' : List (Addr × Obj)} (h : Val H₀ H l) (h' : Val H₀ H l') : Val H₀ H (l ++ l') := fun p hp => (List.mem_append.mp hp).elim (h p) (h' p)
theorem Val.keep {H₀ H H' : Heap} {l : List (Addr × Obj)} (h : Val H₀ H l) (k : KeepBut [] H H') : Val H₀ H' l := fun p hp => ⟨k _ _ (by simp) (h p hp).1, (h p hp).2⟩

theorem hide_stays {H₀ h : Heap} {ex : List (Addr × Obj)} (st : H₀.StaysIn h) (hex : Val H₀ h ex) : H₀.StaysIn (hideAll h (ex.map (·.1))) := fun b o e => hideAll_get _ (st b o e) fun q => by
  obtain ⟨p, hp, rfl⟩ := List.mem_map.mp q
  rw [(hex p hp).2] at e; cases e

section
variable {w : World} {loose : List Str} {mean : ExcName → Option Value} {mg mb : Str → Option Value} {H₀ : Heap} {A : Around} {s : Shared}
  {R : Result → Shared → Prop} {name qual : Str} {params : Arguments} {body : List Stmt} {scope : Scope} {dV kV doc pm cdv ct oc : Value} {an od : Option Addr} {osl : Array (Option Value)} {f : Addr} {args : Args} {binds : List (Str × Value)}

/-- into a def of the text's, over a ledger of one's own choice -/
theorem enterR (G : Gr w loose mean mg mb H₀) (st : H₀.StaysIn s.heap) (ex : List (Addr × Obj)) (hex : Val H₀ s.heap ex)
    (ho : (Mine.hd.heap_39 w.params).lookup f = some ⟨oc, od, .func (fnOf name qual params body scope dV kV doc pm an cdv ct), osl⟩) (hcd : codeIn (Mine.hd.heap_39 w.params) cdv qual = true) (hroom : A.depth < recursionLimit)
    (hbind : BindsTo s (fnOf name qual params body scope dV kV doc pm an cdv ct) args binds) (hloc : ∀ y ∈ binds, scope.names.lookup y.1 = some .local)
    (h : ∀ g L' h₁ tk, Fr g L' h₁ (fun y => binds.reverse.lookup y) → News g L' h₁ ex → (Mine.hd.heap_39 w.params).In g → Top Mine.hd.view_39 loose mean mg mb g → H₀.StaysIn g → GSub s.heap g (ex.map (·.1)) → (∀ p ∈ ex, p.1 < L') →
      wpAny (model PG w) (A.deeper (envOf qual scope L' f cdv)) (execs body (envOf qual scope L' f cdv)) (fun fl s' => R (.ok (.ret (match fl with | .ret v => v | _ => .none))) s')
        (fun e s' => wpAny (model PG w) (A.deeper (envOf qual scope L' f cdv)) (leaving (envOf qual scope L' f cdv) e) (fun _ s'' => R (.error e) s'') (fun e' s'' => R (.error e') s'') s')
        { s with heap := h₁, toks := tk })
    (hco : scope.isCoroutine = false) (hgen : scope.isGenerator = false) (hk : scope.kind = .function)
    (hcell : ∀ x ∈ scope.names, x.2 ≠ .cell) : codeAny (model PG w) A (.call (.ref f) args) R s := by
  have stg := hide_stays st hex
  refine codeAny_call_def (fd := fnX name qual params body scope [] dV kV doc pm an cdv ct) (body := body) (binds := binds) hroom ((G.X.keeps st) _ _ ho) rfl (G.T.nolimit.keeps st) (codeRec_of (G.X.keeps st) hcd) rfl hbind hcell hloc (fun h₁ hns hk₁ => ?_) hco hgen hk
  exact h _ s.heap.objs.size h₁ _ ⟨hns, fun b o e => hk₁ b o (of_hideAll _ e), Nat.le_of_eq (hideAll_size _ _)⟩
    (fun p hp => ⟨hk₁ _ _ (hex p hp).1, Nat.ne_of_lt (Heap.lt_size (hex p hp).1), hideAll_none _ (List.mem_map_of_mem hp)⟩) (G.X.keeps stg) (G.T.keeps stg) stg (fun b o e n => hideAll_get _ e n) (fun p hp => Heap.lt_size (hex p hp).1)

/-- the same, where the def has cells -/
theorem enterC (G : Gr w loose mean mg mb H₀) (st : H₀.StaysIn s.heap) (ex : List (Addr × Obj)) (hex : Val H₀ s.heap ex)
    (ho : (Mine.hd.heap_39 w.params).lookup f = some ⟨oc, od, .func (fnOf name qual params body scope dV kV doc pm an cdv ct), osl⟩) (hcd : codeIn (Mine.hd.heap_39 w.params) cdv qual = true) (hroom : A.depth < recursionLimit)
    (hbind : BindsTo s (fnOf name qual params body scope dV kV doc pm an cdv ct) args binds) (hkind : (binds.all fun y => scope.names.lookup y.1 == some .local || scope.names.lookup y.1 == some .cell) = true)
    (hnd : ((cellsFrom 0 scope.names []).map (·.1)).Nodup)
    (h : ∀ g L' h₁ tk cells, Fr g L' h₁ (bindL (envOfC qual scope L' f cdv).kindOf binds fun _ => none) → News g L' h₁ (cells ++ ex) →
      CellsAre (bindC (envOfC qual scope L' f cdv).kindOf binds fun _ => none) (cellsFrom (L' + 1) scope.names []) cells → (Mine.hd.heap_39 w.params).In g → Top Mine.hd.view_39 loose mean mg mb g → H₀.StaysIn g → GSub s.heap g (ex.map (·.1)) → (∀ p ∈ ex, p.1 < L') →
      wpAny (model PG w) (A.deeper (envOfC qual scope L' f cdv)) (execs body (envOfC qual scope L' f cdv)) (fun fl s' => R (.ok (.ret (match fl with | .ret v => v | _ => .none))) s')
        (fun e s' => wpAny (model PG w) (A.deeper (envOfC qual scope L' f cdv)) (leaving (envOfC qual scope L' f cdv) e) (fun _ s'' => R (.error e) s'') (fun e' s'' => R (.error e') s'') s')
        { s with heap := h₁, toks := tk })
    (hco : scope.isCoroutine = false) (hgen : scope.isGenerator = false) (hk : scope.kind = .function) : codeAny (model PG w) A (.call (.ref f) args) R s := by
  have stg := hide_stays st hex
  refine codeAny_call_function hroom ((G.X.keeps st) _ _ ho) rfl hco hgen rfl (codeRec_of (G.X.keeps st) hcd) (hbind _ _ _ _ ?_)
  refine wpAny_newFunctionEnv_cells hk (kindsX hkind _) fun env' he s' x => ?_
  subst he
  refine ⟨(G.T.nolimit.keeps st).keeps x.toInCall.keep, codeAny_func ?_⟩
  obtain ⟨h₁, tk, rfl, _⟩ := x.done
  have hk₁ := x.toInCall.keep
  first | (refine x1_2 (Cl.news (h₀ := s.heap) (Nat.le_refl _) fun n c hm => ⟨x.cell n c (lookup_of_mem_nodup (cellsFrom_names scope.names 0 (s.heap.objs.size + 1) [] [] rfl ▸ hnd) hm), x.above n c hm⟩) ?_; intro cells NC Y) | obtain ⟨cells, NC, Y⟩ := Cl.news (h₀ := s.heap) (Nat.le_refl _) fun n c hm => ⟨x.cell n c (lookup_of_mem_nodup (cellsFrom_names scope.names 0 (s.heap.objs.size + 1) [] [] rfl ▸ hnd) hm), x.above n c hm⟩
  refine h _ s.heap.objs.size h₁ tk cells ⟨x.toInCall.ns, fun b o e => hk₁ b o (of_hideAll _ e), Nat.le_of_eq (hideAll_size _ _)⟩ (fun p hp => ?_) Y (G.X.keeps stg) (G.T.keeps stg) stg (fun b o e n => hideAll_get _ e n) (fun p hp => Heap.lt_size (hex p hp).1)
  rcases List.mem_append.mp hp with hp | hp
  · refine ⟨(NC p hp).1, (NC p hp).2.1, ?_⟩
    cases q : (hideAll s.heap (ex.map (·.1))).get? p.1 with
    | none => rfl
    | some o => have := of_hideAll _ q; rw [(NC p hp).2.2] at this; cases this
  · exact ⟨hk₁ _ _ (hex p hp).1, Nat.ne_of_lt (Heap.lt_size (hex p hp).1), hideAll_none _ (List.mem_map_of_mem hp)⟩
end

section
variable {H₀ H g h : Heap} {L : Addr} {m : Str → Option Value} {ex news : List (Addr × Obj)}
/-- what stood at the call's start stands still, but for what is listed -/
theorem keep_now (S : GSub H g (ex.map (·.1))) (hex : Val H₀ H ex) (F : Fr g L h m) (N : News g L h news) (mods : List Addr) (hs : ∀ p ∈ ex, p.1 ∉ mods → p ∈ news) : KeepBut mods H h := fun b o hb e => by
  by_cases hm : b ∈ ex.map (·.1)
  · obtain ⟨p, hp, rfl⟩ := List.mem_map.mp hm
    have h1 := (hex p hp).1
    rw [e] at h1
    cases h1
    exact (N p (hs p hp hb)).1
  · exact F.keep b o (S b o e hm)
theorem fresh_now {a : Addr} {o : Obj} (S : GSub H g (ex.map (·.1))) (N : News g L h news) (hm : (a, o) ∈ news) (hne : a ∉ ex.map (·.1)) : H.get? a = none := by
  cases q : H.get? a with
  | none => rfl
  | some o' => have := S a o' q hne; rw [(N _ hm).2.2] at this; cases this
theorem new_now {a : Addr} {o : Obj} (st : H₀.StaysIn g) (N : News g L h news) (hm : (a, o) ∈ news) : h.get? a = some o ∧ H₀.get? a = none := ⟨(N _ hm).1, by
  cases q : H₀.get? a with
  | none => rfl
  | some o' => have := st a o' q; rw [(N _ hm).2.2] at this; cases this⟩
theorem val_now (st : H₀.StaysIn g) (N : News g L h news) : Val H₀ h news := fun _ hp => new_now st N hp
theorem stays_now (st : H₀.StaysIn g) (F : Fr g L h m) : H₀.StaysIn h := fun b o e => F.keep b o (st b o e)
end

/-- back from a call that keeps all but some of the ledger's objects -/
theorem fr_back {g h h' : Heap} {L : Addr} {m : Str → Option Value} {mods : List Addr} (F : Fr g L h m) (k : KeepBut mods h h') (hL : L ∉ mods) (hg : ∀ a ∈ mods, g.get? a = none) : Fr g L h' m := by
  first | (refine x3_2 (F.ns) ?_; intro oL es ep hLo r) | obtain ⟨oL, es, ep, hLo, r⟩ := F.ns
  exact ⟨⟨oL, es, ep, k _ _ hL hLo, r⟩, fun b o e => k b o (fun hb => by rw [hg b hb] at e; cases e) (F.keep b o e), F.above⟩
theorem news_back {g h h' : Heap} {L : Addr} {news : List (Addr × Obj)} {mods : List Addr} (N : News g L h news) (k : KeepBut mods h h') (hn : ∀ p ∈ news, p.1 ∉ mods) : News g L h' news := fun p hp => ⟨k _ _ (hn p hp) (N p hp).1, (N p hp).2⟩
theorem fr_back0 {g h h' : Heap} {L : Addr} {m : Str → Option Value} (F : Fr g L h m) (k : KeepBut [] h h') : Fr g L h' m := fr_back F k List.not_mem_nil (fun _ h => nomatch h)
theorem news_back0 {g h h' : Heap} {L : Addr} {news : List (Addr × Obj)} (N : News g L h news) (k : KeepBut [] h h') : News g L h' news := news_back N k (fun _ _ => List.not_mem_nil)
/-- what a def gives back where its body ends so -/
@[reducible] def retOf : Flow → Value
  | .ret v => v
  | _ => .none
/-- what follows a def's body, hidden behind a name; nothing is raised -/
theorem hideQ {prog : Program} {w : World} {A : Around} {t : Sem Flow} {Qf : Flow → Shared → Prop} {Q : Value → Shared → Prop} {E : Value → Shared → Prop} {s : Shared} (hf : ∀ fl s', Q (retOf fl) s' → Qf fl s')
    (h : ∀ Q' : Flow → Shared → Prop, (∀ fl s', Q (retOf fl) s' → Q' fl s') → wpAny (model prog w) A t Q' (fun _ _ => False) s) : wpAny (model prog w) A t Qf E s := wpAny_mono (h Qf hf) (fun _ _ x => x) fun _ _ x => x.elim
theorem hideR {Q : Value → Shared → Prop} {Q' : Flow → Shared → Prop} {H : Heap} {mods : List Addr} {Post : Heap → Value → Prop} {s : Shared} (hQ : ∀ fl s', Q (retOf fl) s' → Q' fl s')
    (hret : ∀ r h' tk', KeepBut mods H h' → Post h' r → Q r { s with heap := h', toks := tk' }) : ∀ fl h' tk', KeepBut mods H h' → Post h' (retOf fl) → Q' fl { s with heap := h', toks := tk' } := fun _ _ _ k p => hQ _ _ (hret _ _ _ k p)
/-- what follows a statement: the rest of the body -/
def Aft (M : Model) (A : Around) (env : Env) (Q : Flow → Shared → Prop) (E : Value → Shared → Prop) (rest : List Stmt) (fl : Flow) (s' : Shared) : Prop :=
  match fl with
  | .next => wpAny M A (execs rest env) Q E s'
  | f => Q f s'
theorem execs_aft {M : Model} {A : Around} {env : Env} {Q : Flow → Shared → Prop} {E : Value → Shared → Prop} {s : Shared} {st : Stmt} {rest : List Stmt} (h : wpAny M A (exec st env) (Aft M A env Q E rest) E s) : wpAny M A (execs (st :: rest) env) Q E s :=
  wpAny_execs_cons (wpAny_mono h (fun f _ x => by cases f <;> exact x) fun _ _ x => x)
theorem aft_next {M : Model} {A : Around} {env : Env} {Q : Flow → Shared → Prop} {E : Value → Shared → Prop} {s : Shared} {rest : List Stmt} (h : wpAny M A (execs rest env) Q E s) : Aft M A env Q E rest .next s := h
theorem aft_ret {M : Model} {A : Around} {env : Env} {Q : Flow → Shared → Prop} {E : Value → Shared → Prop} {s : Shared} {rest : List Stmt} {v : Value} (h : Q (.ret v) s) : Aft M A env Q E rest (.ret v) s := h
theorem aft_brk {M : Model} {A : Around} {env : Env} {Q : Flow → Shared → Prop} {E : Value → Shared → Prop} {s : Shared} {rest : List Stmt} (h : Q .brk s) : Aft M A env Q E rest .brk s := h
theorem aft_cont {M : Model} {A : Around} {env : Env} {Q : Flow → Shared → Prop} {E : Value → Shared → Prop} {s : Shared} {rest : List Stmt} (h : Q .cont s) : Aft M A env Q E rest .cont s := h
section
variable {M : Model} {A : Around} {E : Value → Shared → Prop} {s : Shared} {h₀ : Heap} {L : Addr} {m : Str → Option Value} {env : Env} {x : Str} {pos : Pos} {v : Value} {news : List (Addr × Obj)}
theorem nameE {Q : Value → Shared → Prop} (hL : env.locals = L) (F : Fr h₀ L s.heap m) (hv : m x = some v) (h : Q v s) (hk : env.scope.kind = .function) (hx : env.kindOf x = some .local) (hd : (x == ("__debug__" : Str)) = false) :
    wpAny M A (eval (.Name x pos) env) Q E s := wpAny_Name (wpAny_loadName_local hk hx (hL ▸ F.ns) hv h) hd
theorem storeE {Q : Unit → Shared → Prop} (hL : env.locals = L) (F : Fr h₀ L s.heap m) (N : News h₀ L s.heap news)
    (h : ∀ h', let m' : Str → Option Value := fun y => if y = x then some v else m y; Fr h₀ L h' m' → News h₀ L h' news → Q () { s with heap := h', toks := s.toks + 1 })
    (hk : env.scope.kind = .function) (hx : env.kindOf x = some .local) : wpAny M A (storeName env x v) Q E s := by
  subst hL
  exact wpAny_storeName_local hx F.ns (fun h' hn hs => h h' (F.set hn hs) (N.set hs)) (by rw [hk]; rfl)
end
theorem room1 {dp k K m : Nat} (h : dp + K < m) (e : Nat.ble k K = true) : dp + k < m := Nat.lt_of_le_of_lt (Nat.add_le_add_left (Nat.le_of_ble_eq_true e) dp) h
theorem room2 {dp c k K m : Nat} (h : dp + K < m) (e : Nat.ble (c + k) K = true) : dp + c + k < m := by rw [Nat.add_assoc]; exact room1 h e
theorem room3 {dp c d k K m : Nat} (h : dp + K < m) (e : Nat.ble (c + d + k) K = true) : dp + c + d + k < m := by rw [Nat.add_assoc, Nat.add_assoc, ← Nat.add_assoc c]; exact room1 h e
theorem roomv {dp c n m : Nat} (h : dp + (4 * (n + 1) + 4) < m) (e : Nat.ble c 4 = true) : dp + c + (4 * n + 4) < m := by
  have := Nat.le_of_ble_eq_true e
  omega
theorem roomw {dp c n m : Nat} (h : dp + (40 * (n + 1) + 40) < m) (e : Nat.ble c 40 = true) : dp + c + (40 * n + 40) < m := by
  have := Nat.le_of_ble_eq_true e
  omega
theorem news_cons {g h h' : Heap} {L : Addr} {m : Str → Option Value} {news : List (Addr × Obj)} {a : Addr} {o : Obj} (F : Fr g L h m) (hf : h.get? a = none) (ha : h'.get? a = some o) (N : News g L h' news) : News g L h' ((a, o) :: news) := fun p hp => by
  rcases List.mem_cons.mp hp with rfl | hp
  · refine ⟨ha, ?_, ?_⟩
    · rintro rfl; obtain ⟨oL, _, _, hLo, _⟩ := F.ns; rw [hf] at hLo; cases hLo
    · cases q : g.get? a with
      | none => rfl
      | some o' => have := F.keep _ _ q; rw [hf] at this; cases this
  · exact N p hp
theorem news_app {g h h' : Heap} {L : Addr} {m : Str → Option Value} {news tl : List (Addr × Obj)} (F : Fr g L h m) (hf : ∀ p ∈ tl, h.get? p.1 = none ∧ h'.get? p.1 = some p.2) (N : News g L h' news) : News g L h' (tl ++ news) := fun p hp => by
  rcases List.mem_append.mp hp with hp | hp
  · exact news_cons F (hf p hp).1 (hf p hp).2 (News.nil) _ (.head _)
  · exact N p hp

theorem notin_of_allLt {a : Addr} : ∀ {ex : List (Addr × Obj)}, AllLt a ex → a ∉ ex.map (·.1)
  | [], _, h => nomatch h
  | p :: r, h, hm => by
    rw [List.map_cons] at hm
    rcases List.mem_cons.mp hm with e | hm
    · have := h.1; rw [← e] at this; exact Nat.lt_irrefl _ this
    · exact notin_of_allLt h.2 hm
theorem fresh_kp {H h : Heap} {a : Addr} (k : KeepBut [] H h) (f : h.get? a = none) : H.get? a = none := by
  cases q : H.get? a with
  | none => rfl
  | some o => rw [k a o (by simp) q] at f; cases f

theorem news_sub {g h : Heap} {L : Addr} {l l' : List (Addr × Obj)} (N : News g L h l) (hs : ∀ p ∈ l', p ∈ l) : News g L h l' := fun p hp => N p (hs p hp)
/-- back from a call that turns the entry at d alone -/
theorem upd_back {g h h' : Heap} {L d : Addr} {m : Str → Option Value} {o o' : Obj} {pre post : List (Addr × Obj)} (F : Fr g L h m) (N : News g L h (pre ++ (d, o) :: post)) (kp : KeepBut [d] h h') (hd : h'.get? d = some o') (h1 : ∀ p ∈ pre, p.1 ≠ d) (h2 : ∀ p ∈ post, p.1 ≠ d) :
    Fr g L h' m ∧ News g L h' (pre ++ (d, o') :: post) := by
  have D := N (d, o) (List.mem_append_right _ (.head _))
  refine ⟨fr_back F kp (fun h => D.2.1 (List.mem_singleton.mp h).symm) (fun a ha => by rw [List.mem_singleton.mp ha]; exact D.2.2), fun p hp => ?_⟩
  rcases List.mem_append.mp hp with hp | hp
  · have := N p (List.mem_append_left _ hp)
    exact ⟨kp _ _ (fun h => h1 p hp (List.mem_singleton.mp h)) this.1, this.2⟩
  · rcases List.mem_cons.mp hp with rfl | hp
    · exact ⟨hd, D.2⟩
    · have := N p (List.mem_append_right _ (.tail _ hp))
      exact ⟨kp _ _ (fun h => h2 p hp (List.mem_singleton.mp h)) this.1, this.2⟩

abbrev mkA (dp un : Nat) (fr : Option (List Env)) (gd : Option (List Code)) : Around := { handled := none, depth := dp, frames := fr, guards := gd, units := un }

/-- what a call of the def at f gives, from the heap H -/
def Ctr (w : World) (H₀ : Heap) (f : Addr) (args : List Value) (dd uu : Nat) (H : Heap) (mods : List Addr) (Post : Heap → Value → Prop) : Prop :=
  ∀ (dp un : Nat) (fr : Option (List Env)) (gd : Option (List Code)) (s : Shared) (Q E : Value → Shared → Prop), s.heap = H → H₀.StaysIn H → dp + dd < recursionLimit → un + uu < cLine →
    (∀ r h' tk', KeepBut mods H h' → Post h' r → Q r { s with heap := h', toks := tk' }) → wpAny (model PG w) (mkA dp un fr gd) (call (.ref f) args) Q E s

theorem go0 {w : World} {H₀ g : Heap} {L : Addr} {m : Str → Option Value} {news : List (Addr × Obj)} {f : Addr} {args : List Value} {dd uu dp un : Nat} {fr : Option (List Env)} {gd : Option (List Code)} {s : Shared} {Post : Heap → Value → Prop} {Q E : Value → Shared → Prop}
    (c : Ctr w H₀ f args dd uu s.heap [] Post) (F : Fr g L s.heap m) (N : News g L s.heap news) (st : H₀.StaysIn g) (r : dp + dd < recursionLimit ∧ un + uu < cLine)
    (k : ∀ r h' tk', KeepBut [] s.heap h' → Post h' r → Fr g L h' m → News g L h' news → Q r { s with heap := h', toks := tk' }) : wpAny (model PG w) (mkA dp un fr gd) (call (.ref f) args) Q E s :=
  c dp un fr gd s Q E rfl (stays_now st F) r.1 r.2 fun r h' tk' kp ps => k r h' tk' kp ps (fr_back0 F kp) (news_back0 N kp)

abbrev vdict (w : World) (t1 t2 t3 t4 t5 : Tok) (kd : Str) (tk : Tok) (li : Addr) (av : Value) : Obj :=
  dictOf [⟨PyData.keyHash w.params (Str.ofString "kind"), .str (Str.ofString "kind") t1, .str kd tk⟩,
    ⟨PyData.keyHash w.params (Str.ofString "items"), .str (Str.ofString "items") t2, .ref li⟩,
    ⟨PyData.keyHash w.params (Str.ofString "attrs"), .str (Str.ofString "attrs") t3, av⟩,
    ⟨PyData.keyHash w.params (Str.ofString "shared"), .str (Str.ofString "shared") t4, .bool false⟩,
    ⟨PyData.keyHash w.params (Str.ofString "loose"), .str (Str.ofString "loose") t5, .bool false⟩] 5

abbrev ndict (w : World) (t1 t2 tk : Tok) : Obj :=
  dictOf [⟨PyData.keyHash w.params (Str.ofString "kind"), .str (Str.ofString "kind") t1, .str (Str.ofString "NULL") tk⟩, ⟨PyData.keyHash w.params (Str.ofString "attrs"), .str (Str.ofString "attrs") t2, .none⟩] 2
/-- a Vector at x, over the ledger l -/
inductive Vec (w : World) (l : List (Addr × Obj)) (x : Addr) (kd : Str) (its : List Value) (av : Value) : Prop where
  | mk (dx : Addr) (t1 t2 t3 t4 t5 tk : Tok) (li : Addr) (n : Nat) (h1 : (x, instObj 257 dx) ∈ l) (h2 : (dx, vdict w t1 t2 t3 t4 t5 kd tk li av) ∈ l) (h3 : (li, listOf its.toArray n) ∈ l) : Vec w l x kd its av
theorem Vec.mono {w : World} {l l' : List (Addr × Obj)} {x : Addr} {kd : Str} {its : List Value} {av : Value} (h : Vec w l x kd its av) (hs : ∀ p ∈ l, p ∈ l') : Vec w l' x kd its av := by
  obtain ⟨dx, t1, t2, t3, t4, t5, tk, li, n, h1, h2, h3⟩ := h
  exact ⟨dx, t1, t2, t3, t4, t5, tk, li, n, hs _ h1, hs _ h2, hs _ h3⟩
abbrev dkind (w : World) := PySem.strKind PG w
/-- a dict at d with these pairs -/
inductive Dct (w : World) (l : List (Addr × Obj)) (d : Addr) (kvs : List (Str × Value)) : Prop where
  | mk (od : Obj) (h1 : (d, od) ∈ l) (h2 : od.IsDictOf (PySem.strKind PG w) kvs) (h3 : (d == sysModules) = false) : Dct w l d kvs
theorem Dct.mono {w : World} {l l' : List (Addr × Obj)} {d : Addr} {kvs : List (Str × Value)} (h : Dct w l d kvs) (hs : ∀ p ∈ l, p ∈ l') : Dct w l' d kvs := by
  obtain ⟨od, h1, h2, h3⟩ := h
  exact ⟨od, hs _ h1, h2, h3⟩

abbrev sI : Str := Str.ofString "integer"
abbrev sL : Str := Str.ofString "logical"
abbrev sC : Str := Str.ofString "character"
abbrev sX : Str := Str.ofString "list"
abbrev sDim : Str := Str.ofString "dim"
abbrev sDn : Str := Str.ofString "dimnames"
abbrev sNm : Str := Str.ofString "names"

section
variable {prog : Program} {w : World} {A : Around} {E : Value → Shared → Prop} {s : Shared} {h₀ : Heap} {L : Addr} {m : Str → Option Value} {news : List (Addr × Obj)} {li : Addr} {its : List Value} {n : Nat}
theorem isList_of (N : News h₀ L s.heap news) (hm : (li, listOf its.toArray n) ∈ news) : s.heap.IsList li its.toArray := ⟨_, (N _ hm).1, rfl, n, rfl⟩
theorem m_len {Q : Value → Shared → Prop} (N : News h₀ L s.heap news) (hm : (li, listOf its.toArray n) ∈ news) (hfit : (its.length : Int) < 2 ^ 63) (h : ∀ t, Q (.int its.length t) { s with toks := s.toks + 1 + 1 }) :
    wpAny (model prog w) A (call (.builtin "len") [.ref li]) Q E s :=
  call_len_list (isList_of N hm) (by rw [List.size_toArray]; exact hfit) (by rw [List.size_toArray]; exact h _)
end

/-- where the walk is to stand -/
def Stop (p : Prop) : Prop := p
theorem Stop.go {p : Prop} (h : Stop p) : p := h
theorem Stop.on {p : Prop} (h : p) : Stop p := h
/-- a frame's names: those of ns turned, the others as they were -/
def ovr (ns : List Str) (u m : Str → Option Value) : Str → Option Value := fun z => if ns.contains z then u z else m z
theorem ovr_of {ns : List Str} {m' m : Str → Option Value} (h : ∀ z, ns.contains z = false → m' z = m z) : m' = fun z => if ns.contains z then m' z else m z := by
  funext z
  cases e : ns.contains z with
  | true => simp
  | false => simp [h z e]
local macro_rules | `(tactic| walk_at "m_fill") => `(tactic| (have KF9 : Mine.hd.heap_39 = Mine.hd.heap_39 ∧ PySem.Challenge.rw_nz0491_01 = PySem.Challenge.rw_nz0491_01 := (by k_fill; exact ⟨rfl, rfl⟩); clear KF9))
local macro_rules | `(tactic| walk_at "m_rB") => `(tactic| ((case c2 => exact rfl); (case c3 => exact rfl); (case c4 => exact rfl); k_whole; skip))
local macro_rules | `(tactic| walk_at "m_rA") => `(tactic| ((case k6 => k_is); (case k7 => k_is); (case k8 => first | exact Nat.lt_of_le_of_lt (Nat.le_add_right _ _) (by with_reducible assumption) | omega | (simp only [mkA, depth_under_make, depth_under_kw, depth_in1, depth_deeper, depth_caller]; omega)); (case k9 => first | exact BindsTo.of_eq rfl | exact binds_K (Frag.In.keeps (Gr.X ‹_›) ‹_›) rfl (by k_is) rfl rfl rfl)))
local macro_rules | `(tactic| walk_at "m_rest0") => `(tactic| (walk_at "m_rA"; (case c5 => decide); (case kB => exact locs rfl); walk_at "m_rB"))

local macro_rules | `(tactic| walk_at "call builtin:len") => `(tactic| (k_here; (with_reducible show wpAny _ _ (call (Value.builtin "len") [Value.ref _]) _ _ _); k_dflt (refine m_len (by k_asm) (by k_mem) (by omega) ?_); intro t9; (try dsimp only)))
local macro_rules | `(tactic| walk_at "m_restC") => `(tactic| (walk_at "m_rA"; (case kB => exact rfl); (case kD => decide +kernel); walk_at "m_rB"))
local macro_rules | `(tactic| walk_at "m_got") => `(tactic| exact News.get ‹_› (by k_mem))
local macro_rules | `(tactic| walk_at "m_keep") => `(tactic| (refine' keep_now ?S ?V ?F ?N [] ?m; (case S => assumption); (case V => assumption); (case F => assumption); (case N => assumption); (case m => intro p hp _; k_ownIn)))
local macro_rules | `(tactic| walk_at "pyIter ref") => `(tactic| ((with_reducible show wpAny _ _ (pyIter (Value.ref _)) (fun it s₂ => LoopAtV _ _ _ _ _ _ _ _ _ it s₂) _ _); k_listUnr))
local macro_rules | `(tactic| walk_at "eval Call") => `(tactic| ((with_reducible show wpAny _ _ (eval (Expr.Call (Expr.Name _ _) _ [] _) _) _ _ _); refine Call_ ?_))
local macro_rules | `(tactic| walk_at "m_io") => `(tactic| ((try simp only [decide_eq_true_eq, decide_eq_false_iff_not, Bool.not_eq_true', Bool.not_eq_false', Bool.and_eq_true, Bool.or_eq_true, bne_iff_ne, beq_iff_eq, ne_eq]); omega))
local macro_rules | `(tactic| walk_at "ite") => `(tactic| (k_openite; first | (refine ite_pos (by walk_at "m_io") ?_) | (refine ite_neg (by walk_at "m_io") ?_)))
local macro_rules | `(tactic| walk_at "exec Raise some none") => `(tactic| (exfalso; omega))
local macro_rules | `(tactic| walk_at "m_fa") => `(tactic| ((with_reducible refine' faC ?fa9 ?_); (case fa9 => k_mem)))
local macro_rules | `(tactic| walk_at "call ref") => `(tactic| ((with_reducible show wpAny _ _ (call (Value.ref _) _) _ _ _); refine Stop.go ?_))
local macro_rules | `(tactic| k_in) => `(tactic| ((with_reducible rename Frag.In _ _ => X9); (with_reducible rename Fr _ _ _ _ => F9); exact Frag.In.keeps X9 (Fr.keep F9)))
local macro_rules | `(tactic| walk_at "m_room") => `(tactic| ((try dsimp only [mkA, Around.deeper, Around.in1]); first | exact room1 (by with_reducible assumption) rfl | exact room2 (by with_reducible assumption) rfl | exact room3 (by with_reducible assumption) rfl | exact roomv (by with_reducible assumption) rfl | exact roomw (by with_reducible assumption) rfl | omega))
local macro_rules | `(tactic| walk_at "m_ltr") => `(tactic| (iterate 16 (first | done | (with_reducible assumption) | apply And.right)); done)
local macro_rules | `(tactic| walk_at "m_ltq") => `(tactic| first | (with_reducible assumption) | exact And.left (by walk_at "m_ltr") | walk_at "m_ltr")
local macro_rules | `(tactic| walk_at "m_lt2") => `(tactic| ((try dsimp only); first | walk_at "m_ltq" | (refine' Nat.lt_succ_of_lt ?_; walk_at "m_lt2") | (refine' Nat.lt_trans ?h1 ?h2; (case h2 => with_reducible assumption); (case h1 => walk_at "m_ltq")) | fail "no fact"))
local macro_rules | `(tactic| k_ne) => `(tactic| (refine neN ?_; (try dsimp only); first | with_reducible assumption | exact Nat.ne_of_lt (by walk_at "m_lt2") | exact Nat.ne_of_gt (by walk_at "m_lt2") | fail "no fact"))
local macro_rules | `(tactic| walk_at "m_fresh") => `(tactic| first | (refine' fresh_kp ?k ?f; (case f => assumption); (case k => walk_at "m_keep")) | (refine' fresh_now ?S ?N ?m ?n; (case S => assumption); (case N => assumption); (case m => k_mem); (case n => exact notin_of_allLt (by (repeat (refine And.intro (by walk_at "m_lt2") ?_)); exact True.intro))) | fail "no fact")
local macro_rules | `(tactic| walk_at "execs cons") => `(tactic| first | (k_here; k_gentoks) | ((with_reducible refine execs_aft ?_); (try dsimp only)))
local macro_rules | `(tactic| walk_at "Aft") => `(tactic| first | (refine aft_next ?_; (try dsimp only)) | refine aft_ret ?_ | refine aft_brk ?_ | refine aft_cont ?_)
local macro_rules | `(tactic| walk_at "eval Name") => `(tactic| (k_here; k_dflt (refine' nameE ?L ?F ?v ?_ ?a ?b ?d; (case F => k_asm); (case L => exact rfl); (case a => exact @rfl _ ScopeKind.function); (case b => exact @rfl _ (some NameKind.local)); (case d => exact @rfl _ false); (case v => exact @rfl _ (some _)); k_whole)))
local macro_rules | `(tactic| walk_at "m_store") => do
    let m := Lean.mkIdent (Lean.Name.mkSimple ("m" ++ toString (← Lean.MonadQuotation.getCurrMacroScope)))
    `(tactic| (k_dflt (refine' storeE ?L ?F ?N ?_ ?a ?b; (case F => k_asm); (case N => k_asm); (case L => exact rfl); (case a => exact @rfl _ ScopeKind.function); (case b => exact @rfl _ (some NameKind.local)); k_whole; intro h' $m F' N'; (try k_sweep))))
local macro_rules | `(tactic| walk_at "storeName") => `(tactic| (k_here; walk_at "m_store"))
local macro_rules | `(tactic| walk_at "m_rm") => `(tactic| exact ⟨by walk_at "m_room", by walk_at "m_room"⟩)
local macro_rules | `(tactic| walk_at "m_df") => `(tactic| ((try dsimp only); (try k_fold)))
local macro_rules | `(tactic| walk_at "m_p1") => `(tactic| ((case r => walk_at "m_rm"); intro r9 h9 tk9 kp9 ps9 F' N'; revert ps9; revert r9; refine y1_0 ?_; intro t9; walk_at "m_df"))
local macro_rules | `(tactic| walk_at "m_vk") => `(tactic| (case V => exact Val.keep ‹_› (by walk_at "m_keep")))
local macro_rules | `(tactic| walk_at "m_mm") => `(tactic| repeat (first | (with_reducible exact List.mem_cons_self) | apply List.mem_cons_of_mem))
local macro_rules | `(tactic| walk_at "s_si") => `(tactic| with_reducible show wpAny _ _ (subscriptTail _ _ (Value.ref _) (Value.int _ _)) _ _ _)
local macro_rules | `(tactic| walk_at "m_nes") => `(tactic| repeat (first | exact List.forall_mem_nil _ | (refine' faC ?h9 ?_; (case h9 => k_ne))))
section
variable {prog : Program} {w : World} {A : Around} {E : Value → Shared → Prop} {s : Shared} {env : Env} {h₀ : Heap} {x : Str} {body : List Stmt} {Q : Flow → Shared → Prop}

/-- a loop over a range: ns the names that a turn stores, Led what the ledger is ahead of turn i -/
theorem range_loop {r : Addr} {a₀ b₀ : Int} {t₀ u₀ v₀ : Tok} {n : Nat} {m₀ : Str → Option Value} {news : List (Addr × Obj)} (ns : List Str) (Led : Nat → List (Addr × Obj) → Prop)
    (hh : A.handled = none) (hr : IsRange s.heap r a₀ b₀ 1 t₀ u₀ v₀) (hsmall : Builtin.Range.small a₀ b₀ 1 = true) (hn : Builtin.Range.rangeSize a₀ b₀ 1 = (n : Int)) (F : Fr h₀ env.locals s.heap m₀) (N : News h₀ env.locals s.heap news) (hj : Led 0 news)
    (turn : ∀ (i : Nat) t (u : Str → Option Value) nx h tk own, i < n → OwnOff own (news.map (·.1)) → Led i nx → Fr h₀ env.locals h (fun y => if y = x then some (.int (a₀ + i) t) else if ns.contains y then u y else m₀ y) → News h₀ env.locals h (nx ++ own) →
      wpAny (model prog w) A (execs body env) (InvPostN h₀ env.locals (fun m' nx' => Led (i + 1) nx' ∧ ∀ z, ns.contains z = false → m' z = m₀ z) own (news.map (·.1)) { s with heap := h, toks := tk } Q) E { s with heap := h, toks := tk })
    (done : ∀ (u : Str → Option Value) nx h tk, Led n nx → Fr h₀ env.locals h (fun y => if ns.contains y then u y else m₀ y) → News h₀ env.locals h nx → Q .next { s with heap := h, toks := tk }) :
    wpAny (model prog w) A (pyIter (.ref r)) (fun it s₂ => LoopAtV prog w A h₀ env x body Q E it s₂) E s := by
  refine kpr_invN (fun i m nx => Led i nx ∧ ∀ z, ns.contains z = false → m z = m₀ z) hh hr hsmall hn F N ⟨hj, fun _ _ => rfl⟩ ?_ ?_
  · rintro i k t m₁ nx h tk own hk hoff ⟨hL, hm⟩ F₁ N₁
    have hi : i < n := by
      have := (List.getElem?_eq_some_iff.mp hk).1
      rwa [rangeKs_length] at this
    have e : k = a₀ + (i : Int) := by
      have := hk
      simp [rangeKs, hi] at this
      exact this.symm
    subst e
    rw [ovr_of hm] at F₁
    exact turn i t m₁ nx h tk own hi hoff hL F₁ N₁
  · rintro m₁ nx h tk ⟨hL, hm⟩ F₁ N₁
    rw [rangeKs_length] at hL
    refine done m₁ nx h tk hL ?_ N₁
    rw [← ovr_of hm]; exact F₁

theorem cells_snoc {zs : List Value} {v : Value} {P : Value → Prop} (h : ∀ z ∈ zs, P z) (hv : P v) : ∀ z ∈ zs ++ [v], P z := fun z hz => by
  rcases List.mem_append.mp hz with hz | hz
  · exact h z hz
  · rw [List.mem_singleton.mp hz]; exact hv
theorem range_small (n : Int) (h : n < 1000) (h0 : 0 ≤ n) : Builtin.Range.small 0 n 1 = true := small_one (by omega) (by omega) (by omega) (by omega)
theorem range_size (n : Int) (h0 : 0 ≤ n) : Builtin.Range.rangeSize 0 n 1 = ((n.toNat : Nat) : Int) := by
  simp only [Builtin.Range.rangeSize]
  rw [if_pos (by decide)]
  split <;> omega
end

section
variable {prog : Program} {w : World} {A : Around} {E : Value → Shared → Prop} {s : Shared} {h₀ : Heap} {L : Addr} {news : List (Addr × Obj)}
theorem m_mod {a b : Int} {t u : Tok} {Q : Value → Shared → Prop} (hb : 0 < b) (h : ∀ k v, 0 ≤ k → k < b → Q (.int k v) { s with toks := s.toks + 1 }) : wpAny (model prog w) A (binaryOp .Mod (.int a t) (.int b u)) Q E s :=
  mod_int' (Int.ne_of_gt hb) (h _ _ (Int.fmod_nonneg_of_pos _ hb) (Int.fmod_lt_of_pos _ hb))
theorem ints_at {its : List Value} {xs : List Int} (hi : IntsAre its xs) {j : Nat} (h : j < its.length) : ∃ x t, its[j]? = some (.int x t) ∧ x ∈ xs := by
  have h' : j < xs.length := by rw [← hi.length]; exact h
  obtain ⟨t, e⟩ := hi.get j xs[j] (by simp [h'])
  exact ⟨_, t, e, List.getElem_mem h'⟩
theorem m_item {value slice : PySem.Expr} {l : Addr} {its : List Value} {xs : List Int} {n : Nat} {k : Int} {u : Tok} {Q : Value → Shared → Prop}
    (N : News h₀ L s.heap news) (hm : (l, listOf its.toArray n) ∈ news) (hi : IntsAre its xs) (h0 : 0 ≤ k) (h1 : k < (its.length : Int)) (hf : (its.length : Int) < 2 ^ 63) (h : ∀ x t, x ∈ xs → Q (.int x t) s)
    (hs : subscripted slice false (.ref l) (.int k u) = operate [.ref l, .int k u] (getItem (.ref l) (.int k u)) := by with_unfolding_all rfl) :
    wpAny (model prog w) A (subscriptTail value slice (.ref l) (.int k u)) Q E s := by
  have hl : s.heap.IsList l its.toArray := isList_of N hm
  first | (refine x2_2 (ints_at hi (j := k.toNat) (by omega)) ?_; intro x t e hx) | obtain ⟨x, t, e, hx⟩ := ints_at hi (j := k.toNat) (by omega)
  exact tail_any hl.typeIs slot_list_getitem.lookup (wpAny_getItem_list hl h0 (by omega) (by simpa using e) (h x t hx)) hs
end

theorem ne_of_contains {ns : List Str} {z a : Str} (h : ns.contains z = false) (ha : ns.contains a = true) : z ≠ a := fun e => by rw [e, ha] at h; cases h
theorem not_contains {ns : List Str} {z : Str} (h : ns.contains z = false) : ¬ (ns.contains z = true) := by rw [h]; exact Bool.false_ne_true
local macro_rules | `(tactic| walk_at "m_names") => `(tactic| (intro z hz; (repeat (first | (refine (if_neg (ne_of_contains hz ?ha)).trans ?_; (case ha => rfl)) | (refine (if_neg (not_contains hz)).trans ?_))); rfl))
local macro_rules | `(tactic| walk_at "m_sub") => `(tactic| (with_unfolding_all ((try simp only [List.nil_append, List.cons_append]); k_allIn)))
local macro_rules | `(tactic| walk_at "m_own") => `(tactic| (intro p hp; k_ownIn))
section
open AutoSeq1 (wpAny_loadPart')
open MeetsSeq MeetsSeq2 MeetsSeq3 SeqRoads2 SeqAt
variable {w : World}

/-- y and x are found equal, in this world -/
def EqW (w : World) (A : Around) (s : Shared) (y x : Value) : Prop := ∀ (E : Value → Shared → Prop) (Q : Bool → Shared → Prop), Q true s → wpAny (model PG w) A (eqBool y x) Q E s
def RcW (w : World) (A : Around) (s : Shared) (y x : Value) : Prop := ∀ (E : Value → Shared → Prop) (Q : Value → Shared → Prop), Q (.bool true) s → wpAny (model PG w) A (richCompare .Eq y x) Q E s
def NeW (w : World) (A : Around) (s : Shared) (y x : Value) : Prop := ∀ (E : Value → Shared → Prop) (Q : Value → Shared → Prop), Q (.bool false) s → wpAny (model PG w) A (richCompare .NotEq y x) Q E s
theorem EqW.of {A : Around} {s : Shared} {y x : Value} (h : EqAt A s y x true) : EqW w A s y x := fun E Q hq => h PG w E Q hq
theorem EqW.refs {A : Around} {s : Shared} {l b : Addr} (h : RcW w A s (.ref l) (.ref b)) : EqW w A s (.ref l) (.ref b) := fun E Q hq => by
  by_cases hne : l = b
  · subst hne; exact EqAt.same _ PG w E Q hq
  · unfold eqBool
    refine wpAny_holding ?_
    refine wpAny_ite_split (fun hab => absurd (by have := eq_of_beq hab; injection this) hne) (fun _ => ?_)
    exact wpAny_bind (h E _ (wpAny_truthy_bool hq))

/-- two lists or tuples of one length, alike place by place -/
def Alike (w : World) (A : Around) (s : Shared) (xs ys : Array Value) : Prop := ∀ j (h1 : j < xs.size) (h2 : j < ys.size), EqW w A s xs[j] ys[j]

theorem eqw_loop (l b : Addr) (items items2 : Array Value) (n n2 : Nat) (dd dd2 : Option Addr) (sl sl2 : Array (Option Value)) (hsz : items.size = items2.size) (k : Nat) :
    ∀ i : Nat, items.size - i = k → MeetsIn PG w (Builtin.«list.__eq__.loop» ⟨[.ref l, .ref b, rawInt i, rawInt 2], []⟩)
      (fun A R s => s.heap.get? l = some { cls := .type "list", dict := dd, data := .seq items n, slots := sl } ∧ s.heap.get? b = some { cls := .type "list", dict := dd2, data := .seq items2 n2, slots := sl2 } ∧
        Alike w A.in1 s items items2 ∧ R (.ok (.ret (.bool true))) s) := by
  induction k with
  | zero =>
    intro i hk A R s h
    obtain ⟨hp, g, d, tk, os⟩ := s; obtain ⟨hl, hb, he, h⟩ := h
    wp_walk using wpAny_loadPart' hl, wpAny_loadPart' hb
    have hi1 : items[((i : Nat) : Int).toNat]? = none := Array.getElem?_eq_none (Nat.le_of_sub_eq_zero hk)
    have hi2 : items2[((i : Nat) : Int).toNat]? = none := Array.getElem?_eq_none (hsz ▸ Nat.le_of_sub_eq_zero hk)
    rw [hi1, hi2]
    wp_walk using wpAny_loadPart' hl, wpAny_loadPart' hb
    show R (.ok (.ret (.bool (items.size == items2.size)))) _
    rw [hsz]
    simpa using h
  | succ k ih =>
    intro i hk A R s h
    obtain ⟨hp, g, d, tk, os⟩ := s; obtain ⟨hl, hb, he, h⟩ := h
    wp_walk using wpAny_loadPart' hl, wpAny_loadPart' hb
    have hlt : i < items.size := Nat.lt_of_sub_eq_succ hk
    have hlt2 : i < items2.size := hsz ▸ hlt
    have hi1 : items[((i : Nat) : Int).toNat]? = some items[i] := by simp [hlt]
    have hi2 : items2[((i : Nat) : Int).toNat]? = some items2[i] := by simp [hlt2]
    have hc : ((i : Int) + 1) = ((i + 1 : Nat) : Int) := by push_cast; rfl
    rw [hi1, hi2]
    refine wpAny_bind (he i hlt hlt2 _ _ ?_)
    wp_walk
    rw [hc]
    exact ⟨plainId_quiet plain_eq_loop _, codeAny_builtin entry_eq_loop (by
      rw [Around.under_plainId plain_eq_loop _]
      exact ih (i + 1) (by rw [Nat.sub_succ, hk]; rfl) A R _ ⟨hl, hb, he, h⟩)⟩

theorem eqw_list (l b : Addr) (items items2 : Array Value) (n n2 : Nat) (dd dd2 : Option Addr) (sl sl2 : Array (Option Value)) (hsz : items.size = items2.size) :
    MeetsIn PG w (Builtin.«list.__eq__» ⟨[.ref l, .ref b], []⟩)
      (fun A R s => s.heap.get? l = some { cls := .type "list", dict := dd, data := .seq items n, slots := sl } ∧ s.heap.get? b = some { cls := .type "list", dict := dd2, data := .seq items2 n2, slots := sl2 } ∧
        Alike w A.in1 s items items2 ∧ R (.ok (.ret (.bool true))) s) := by
  intro A R s h
  obtain ⟨hp, g, d, tk, os⟩ := s; obtain ⟨hl, hb, he, h⟩ := h
  have f3 := AutoSeq1.sub_list_list
  have hne : ¬ (items.size != items2.size) = true := by simp [hsz]
  wp_walk using wpAny_loadPart' hl, wpAny_loadPart' hb
  exact ⟨plainId_quiet plain_eq_loop _, codeAny_builtin entry_eq_loop (by
    rw [Around.under_plainId plain_eq_loop _]
    exact eqw_loop l b items items2 n n2 dd dd2 sl sl2 hsz _ 0 rfl A R _ ⟨hl, hb, he, h⟩)⟩

theorem new_loop (l b : Addr) (items items2 : Array Value) (n n2 : Nat) (dd dd2 : Option Addr) (sl sl2 : Array (Option Value)) (hsz : items.size = items2.size) (k : Nat) :
    ∀ i : Nat, items.size - i = k → MeetsIn PG w (Builtin.«list.__eq__.loop» ⟨[.ref l, .ref b, rawInt i, rawInt 3], []⟩)
      (fun A R s => s.heap.get? l = some { cls := .type "list", dict := dd, data := .seq items n, slots := sl } ∧ s.heap.get? b = some { cls := .type "list", dict := dd2, data := .seq items2 n2, slots := sl2 } ∧
        Alike w A.in1 s items items2 ∧ R (.ok (.ret (.bool false))) s) := by
  induction k with
  | zero =>
    intro i hk A R s h
    obtain ⟨hp, g, d, tk, os⟩ := s; obtain ⟨hl, hb, he, h⟩ := h
    wp_walk using wpAny_loadPart' hl, wpAny_loadPart' hb
    have hi1 : items[((i : Nat) : Int).toNat]? = none := Array.getElem?_eq_none (Nat.le_of_sub_eq_zero hk)
    have hi2 : items2[((i : Nat) : Int).toNat]? = none := Array.getElem?_eq_none (hsz ▸ Nat.le_of_sub_eq_zero hk)
    rw [hi1, hi2]
    wp_walk using wpAny_loadPart' hl, wpAny_loadPart' hb
    show R (.ok (.ret (.bool (items.size != items2.size)))) _
    rw [hsz]
    simpa using h
  | succ k ih =>
    intro i hk A R s h
    obtain ⟨hp, g, d, tk, os⟩ := s; obtain ⟨hl, hb, he, h⟩ := h
    wp_walk using wpAny_loadPart' hl, wpAny_loadPart' hb
    have hlt : i < items.size := Nat.lt_of_sub_eq_succ hk
    have hlt2 : i < items2.size := hsz ▸ hlt
    have hi1 : items[((i : Nat) : Int).toNat]? = some items[i] := by simp [hlt]
    have hi2 : items2[((i : Nat) : Int).toNat]? = some items2[i] := by simp [hlt2]
    have hc : ((i : Int) + 1) = ((i + 1 : Nat) : Int) := by push_cast; rfl
    rw [hi1, hi2]
    refine wpAny_bind (he i hlt hlt2 _ _ ?_)
    wp_walk
    rw [hc]
    exact ⟨plainId_quiet plain_eq_loop _, codeAny_builtin entry_eq_loop (by
      rw [Around.under_plainId plain_eq_loop _]
      exact ih (i + 1) (by rw [Nat.sub_succ, hk]; rfl) A R _ ⟨hl, hb, he, h⟩)⟩

theorem new_list (l b : Addr) (items items2 : Array Value) (n n2 : Nat) (dd dd2 : Option Addr) (sl sl2 : Array (Option Value)) (hsz : items.size = items2.size) :
    MeetsIn PG w (Builtin.«list.__ne__» ⟨[.ref l, .ref b], []⟩)
      (fun A R s => s.heap.get? l = some { cls := .type "list", dict := dd, data := .seq items n, slots := sl } ∧ s.heap.get? b = some { cls := .type "list", dict := dd2, data := .seq items2 n2, slots := sl2 } ∧
        Alike w A.in1 s items items2 ∧ R (.ok (.ret (.bool false))) s) := by
  intro A R s h
  obtain ⟨hp, g, d, tk, os⟩ := s; obtain ⟨hl, hb, he, h⟩ := h
  have f3 := AutoSeq1.sub_list_list
  have hne : ¬ (items.size != items2.size) = true := by simp [hsz]
  wp_walk using wpAny_loadPart' hl, wpAny_loadPart' hb
  exact ⟨plainId_quiet plain_eq_loop _, codeAny_builtin entry_eq_loop (by
    rw [Around.under_plainId plain_eq_loop _]
    exact new_loop l b items items2 n n2 dd dd2 sl sl2 hsz _ 0 rfl A R _ ⟨hl, hb, he, h⟩)⟩

theorem drop_zip {xs ys : List Value} {i : Nat} {y x : Value} {rest : List (Value × Value)} (h : (y, x) :: rest = (xs.zip ys).drop i) :
    ∃ (h1 : i < xs.length) (h2 : i < ys.length), y = xs[i] ∧ x = ys[i] ∧ rest = (xs.zip ys).drop (i + 1) := by
  have hlt : i < (xs.zip ys).length := by
    rcases Nat.lt_or_ge i (xs.zip ys).length with h' | h'
    · exact h'
    · rw [List.drop_of_length_le h'] at h; cases h
  rw [List.drop_eq_getElem_cons hlt] at h
  injection h with e r
  rw [List.length_zip] at hlt
  have h1 : i < xs.length := by omega
  have h2 : i < ys.length := by omega
  refine ⟨h1, h2, ?_, ?_, r⟩
  · have := congrArg Prod.fst e; simpa using this
  · have := congrArg Prod.snd e; simpa using this

theorem eqw_tuple (l b : Addr) (items items2 : Array Value) (n n2 : Nat) (dd dd2 : Option Addr) (sl sl2 : Array (Option Value)) (hsz : items.size = items2.size) :
    MeetsIn PG w (Builtin.«tuple.__eq__» ⟨[.ref l, .ref b], []⟩)
      (fun A R s => s.heap.get? l = some { cls := .type "tuple", dict := dd, data := .seq items n, slots := sl } ∧ s.heap.get? b = some { cls := .type "tuple", dict := dd2, data := .seq items2 n2, slots := sl2 } ∧
        Alike w A.in1 s items items2 ∧ R (.ok (.ret (.bool true))) s) :=
  .of_wp fun A R s h => by
    obtain ⟨hp, g, d, tk, os⟩ := s; obtain ⟨hl, hb, he, h⟩ := h
    have f2 := AutoSeq1.sub_tuple_tuple
    wp_walk using wpAny_loadPart' hl, wpAny_loadPart' hb, wpAny_forIn_list _ (fun rest b s' => b.1 = none ∧ s' = ⟨hp, g, d, tk, os⟩ ∧ ∃ i, rest = (items.toList.zip items2.toList).drop i) _
    case turn =>
      rintro ⟨y, x⟩ rest b s' ⟨hb', rfl, i, hz⟩
      first | (refine x2_3 (drop_zip hz) ?_; intro h1 h2 e2z e3z hrest; subst e2z; subst e3z) | obtain ⟨h1, h2, rfl, rfl, hrest⟩ := drop_zip hz
      refine wpAny_bind (he i (by simpa using h1) (by simpa using h2) _ _ ?_)
      wp_walk
      exact ⟨rfl, rfl, i + 1, hrest⟩
    case fin =>
      rintro ⟨b1, b2⟩ s' ⟨hb', rfl, i, hz⟩
      simp only at hb'
      subst hb'
      wp_walk
      exact ⟨_, rfl, by simpa [Builtin.Tuple.tupleCompareSizes, hsz] using h⟩
    case h =>
      exact ⟨rfl, rfl, 0, rfl⟩

variable {A : Around} {s : Shared}
theorem RcW.lists {l b : Addr} {items items2 : Array Value} (hl : s.heap.IsList l items) (hb : s.heap.IsList b items2) (hsz : items.size = items2.size) (hu : A.units < cLine) (he : Alike w A.in1 s items items2) : RcW w A s (.ref l) (.ref b) := fun E Q h => by
  obtain ⟨⟨cls, dd, data, sl⟩, ho, hc, n, hd⟩ := id hl
  obtain ⟨⟨cls2, dd2, data2, sl2⟩, ho2, hc2, n2, hd2⟩ := id hb
  simp only at hc hd hc2 hd2
  subst hc hd hc2 hd2
  exact wpAny_richCompare_same_room (op := .Eq) ⟨_, ho, rfl⟩ ⟨_, ho2, rfl⟩ F.slot_list_eq (call_meetsIn F.slot_list_eq ⟨_, ho, rfl⟩ F.entry_list_eq (F.args_list_eq_2 _ _) (eqw_list l b items items2 n n2 dd dd2 sl sl2 hsz)
    ⟨ho, ho2, he, show Value.bool true ≠ Value.notImplemented ∧ Q (.bool true) s from ⟨(fun x => nomatch x), h⟩⟩) hu
theorem RcW.tuples {l b : Addr} {items items2 : Array Value} (hl : s.heap.IsTuple l items) (hb : s.heap.IsTuple b items2) (hsz : items.size = items2.size) (hu : A.units < cLine) (he : Alike w A.in1 s items items2) : RcW w A s (.ref l) (.ref b) := fun E Q h => by
  obtain ⟨⟨cls, dd, data, sl⟩, ho, hc, n, hd⟩ := id hl
  obtain ⟨⟨cls2, dd2, data2, sl2⟩, ho2, hc2, n2, hd2⟩ := id hb
  simp only at hc hd hc2 hd2
  subst hc hd hc2 hd2
  exact wpAny_richCompare_same_room (op := .Eq) ⟨_, ho, rfl⟩ ⟨_, ho2, rfl⟩ F.slot_tuple_eq (call_meetsIn F.slot_tuple_eq ⟨_, ho, rfl⟩ F.entry_tuple_eq (F.args_tuple_eq_2 _ _) (eqw_tuple l b items items2 n n2 dd dd2 sl sl2 hsz)
    ⟨ho, ho2, he, show Value.bool true ≠ Value.notImplemented ∧ Q (.bool true) s from ⟨(fun x => nomatch x), h⟩⟩) hu
theorem NeW.lists {l b : Addr} {items items2 : Array Value} (hl : s.heap.IsList l items) (hb : s.heap.IsList b items2) (hsz : items.size = items2.size) (hu : A.units < cLine) (he : Alike w A.in1 s items items2) : NeW w A s (.ref l) (.ref b) := fun E Q h => by
  obtain ⟨⟨cls, dd, data, sl⟩, ho, hc, n, hd⟩ := id hl
  obtain ⟨⟨cls2, dd2, data2, sl2⟩, ho2, hc2, n2, hd2⟩ := id hb
  simp only at hc hd hc2 hd2
  subst hc hd hc2 hd2
  exact wpAny_richCompare_same_room (op := .NotEq) ⟨_, ho, rfl⟩ ⟨_, ho2, rfl⟩ F.slot_list_ne (call_meetsIn F.slot_list_ne ⟨_, ho, rfl⟩ F.entry_list_ne (F.args_list_ne_2 _ _) (new_list l b items items2 n n2 dd dd2 sl sl2 hsz)
    ⟨ho, ho2, he, show Value.bool false ≠ Value.notImplemented ∧ Q (.bool false) s from ⟨(fun x => nomatch x), h⟩⟩) hu
end
section
variable {w : World} {K : Type} [DecidableEq K] {knd : KeyKind PG w K} {A : Around} {E : Value → Shared → Prop} {s : Shared}

/-- two dicts of as many pairs, the one's pairs found in the other -/
def Hits (w : World) {K : Type} [DecidableEq K] (A : Around) (s : Shared) (ka kb : List (K × Value)) : Prop := ka.length = kb.length ∧ ∀ p ∈ ka, ∃ y, valueAt kb p.1 = some y ∧ EqW w A s p.2 y

theorem pairs_same {nm : String} {a b : Addr} {ka kb : List (K × Value)} {Q : Bool → Shared → Prop} (ha : (a == sysModules) = false) (hb : (b == sysModules) = false)
    (da : s.heap.DictOf knd a ka) (db : s.heap.DictOf knd b kb) (hits : Hits w A s ka kb) (h : Q true s) : wpAny (model PG w) A (Builtin.Dict.samePairs nm a b) Q E s := by
  obtain ⟨hlen, hits⟩ := hits
  obtain ⟨oa, es, ep, hoa, _, hda, hka, hpa, _⟩ := da
  obtain ⟨ob, es', ep', hob, _, hdb, hkb, hpb, _⟩ := db
  have hla : ka.length = es.size := by rw [← hpa.length]; exact Array.length_toList
  have hlb : kb.length = es'.size := by rw [← hpb.length]; exact Array.length_toList
  have hsz : es.size = es'.size := by omega
  have hfind : ∀ k, findBy knd.is es' k = valueAt kb k := fun k => by
    rw [← hpb.find k]
    clear hlb hpb hkb hdb hob hsz
    obtain ⟨l⟩ := es'
    simp [findBy]
  unfold Builtin.Dict.samePairs Builtin.Dict.showsAll
  rw [if_neg (show ¬ (a == sysModules) = true by rw [ha]; exact Bool.false_ne_true), if_neg (show ¬ (b == sysModules) = true by rw [hb]; exact Bool.false_ne_true)]
  refine wpAny_bind (wpAny_pure (wpAny_bind (wpAny_pure ?_)))
  refine wpAny_bind (wpAny_dictEntries hoa hda ?_)
  (try dsimp only)
  refine wpAny_bind (wpAny_dictEntries hob hdb ?_)
  rw [if_neg (by rw [hsz]; simp)]
  refine wpAny_bind (wpAny_dictEpoch hoa hda ?_)
  refine wpAny_bind ?_
  rw [Std.Legacy.Range.forIn_eq_forIn_range']
  simp only [Std.Legacy.Range.size, Nat.sub_zero, Nat.add_sub_cancel, Nat.div_one]
  refine wpAny_forIn_list _ (fun rest q s' => s' = s ∧ q = (none, ()) ∧ ∃ i, rest = List.range' i (es.size - i) ∧ i ≤ es.size) _ ?_ ?_ _ _ ⟨rfl, rfl, 0, by simp, Nat.zero_le _⟩
  · rintro x rest q s' ⟨rfl, rfl, i, hr, hi⟩
    have hlt : i < es.size := by
      rcases Nat.lt_or_ge i es.size with h | h
      · exact h
      · rw [Nat.sub_eq_zero_of_le h] at hr; simp at hr
    obtain ⟨rfl, hrest⟩ : x = i ∧ rest = List.range' (i + 1) (es.size - (i + 1)) := by
      have e : es.size - i = (es.size - (i + 1)) + 1 := (Nat.sub_add_cancel (Nat.sub_pos_of_lt (by assumption))).symm
      rw [e, List.range'_succ] at hr
      injection hr with h1 h2
      exact ⟨h1, h2⟩
    refine wpAny_bind (wpAny_dictEntries hoa hda ?_)
    rw [Array.getElem?_eq_getElem hlt]
    have hlt' : x < ka.length := by rw [hla]; exact hlt
    obtain ⟨k, v, hkv⟩ : ∃ k v, ka[x] = (k, v) := ⟨_, _, rfl⟩
    obtain ⟨hkey, hval⟩ := hpa.get? (i := x) (e := es[x]) (k := k) (v := v) (by rw [Array.getElem?_toList]; exact Array.getElem?_eq_getElem hlt) (by rw [List.getElem?_eq_getElem hlt', hkv])
    first | (refine x1_2 (hka es[x] (Array.getElem_mem hlt)) ?_; intro k' hk' hh) | obtain ⟨k', hk', hh⟩ := hka es[x] (Array.getElem_mem hlt)
    have ekk : k' = k := knd.inj _ _ _ hk' hkey
    rw [ekk] at hh
    obtain ⟨y, hy, he⟩ := hits (k, v) (by rw [← hkv]; exact List.getElem_mem hlt')
    show wpAny _ _ (holding [es[x].key, es[x].val] _ >>= _) _ _ _
    rw [hh]
    refine wpAny_bind (wpAny_holding (wpAny_bind (wpAny_dictFind_of hkey hob hdb hkb ?_)))
    cases hj : es'.findIdx? fun e => knd.is k e.key with
    | none =>
      have hn : valueAt kb k = none := by rw [← hfind k, findBy_of_findIdx?, hj]
      rw [hn] at hy; exact nomatch hy
    | some j =>
      obtain ⟨hjlt, _, _⟩ := Array.findIdx?_eq_some_iff_getElem.mp hj
      have hv' : valueAt kb k = some es'[j].val := by
        rw [← hfind k, findBy_of_findIdx?, hj]
        simp [Array.getElem?_eq_getElem hjlt]
      refine wpAny_bind (wpAny_dictEntries hob hdb ?_)
      rw [Array.getElem?_eq_getElem hjlt]
      have ey : es'[j].val = y := Option.some.inj (hv'.symm.trans hy)
      rw [← ey, ← hval] at he
      refine wpAny_holding (he _ _ ?_)
      show wpAny _ _ (if (!true) = true then _ else _) _ _ _
      rw [if_neg (by decide)]
      refine wpAny_bind (wpAny_dictEpoch hoa hda ?_)
      rw [if_neg (by simp)]
      exact wpAny_pure ⟨rfl, rfl, x + 1, hrest, hlt⟩
  · rintro q s' ⟨rfl, rfl, i, hr, hi⟩
    exact wpAny_pure h
theorem RcW.dicts {a b : Addr} {ka kb : List (K × Value)} (ha : (a == sysModules) = false) (hb : (b == sysModules) = false) (da : s.heap.DictOf knd a ka) (db : s.heap.DictOf knd b kb) (hu : A.units < cLine) (hits : Hits w A.in1 s ka kb) : RcW w A s (.ref a) (.ref b) := fun E Q h => by
  refine wpAny_richCompare_same_room (op := .Eq) da.typeIs db.typeIs PySem.F.slot_dict_eq (wpAny_call_entry PySem.F.slot_dict_eq da.typeIs PySem.F.entry_dict_eq ?_ (PySem.F.args_dict_eq_2 _ _)) hu
  show wpAny _ _ (Builtin.Dict.dictSlotArgs "__eq__" ⟨[.ref a, .ref b], []⟩ >>= _) _ _ s
  refine wpAny_bind ?_
  unfold Builtin.Dict.dictSlotArgs
  refine wpAny_bind (wpAny_notOrdered_dict da.typeIs ?_)
  show wpAny _ _ (pure (Value.ref a, Value.ref b)) _ _ s
  refine wpAny_pure ?_
  refine wpAny_bind (wpAny_isInstance (T := "dict") db.typeIs PySem.F.sub_dict_dict ?_)
  simp only [Bool.not_true, Bool.false_eq_true, if_false]
  refine wpAny_bind (wpAny_pure (wpAny_bind (wpAny_pure ?_)))
  exact wpAny_bind (pairs_same ha hb da db hits (wpAny_pure ⟨_, rfl, (fun x => nomatch x), h⟩))
theorem NeW.dicts {a b : Addr} {ka kb : List (K × Value)} (ha : (a == sysModules) = false) (hb : (b == sysModules) = false) (da : s.heap.DictOf knd a ka) (db : s.heap.DictOf knd b kb) (hu : A.units < cLine) (hits : Hits w A.in1 s ka kb) : NeW w A s (.ref a) (.ref b) := fun E Q h => by
  refine wpAny_richCompare_same_room (op := .NotEq) da.typeIs db.typeIs PySem.F.slot_dict_ne (wpAny_call_entry PySem.F.slot_dict_ne da.typeIs PySem.F.entry_dict_ne ?_ (PySem.F.args_dict_ne_2 _ _)) hu
  show wpAny _ _ (Builtin.Dict.dictSlotArgs "__ne__" ⟨[.ref a, .ref b], []⟩ >>= _) _ _ s
  refine wpAny_bind ?_
  unfold Builtin.Dict.dictSlotArgs
  refine wpAny_bind (wpAny_notOrdered_dict da.typeIs ?_)
  show wpAny _ _ (pure (Value.ref a, Value.ref b)) _ _ s
  refine wpAny_pure ?_
  refine wpAny_bind (wpAny_isInstance (T := "dict") db.typeIs PySem.F.sub_dict_dict ?_)
  simp only [Bool.not_true, Bool.false_eq_true, if_false]
  refine wpAny_bind (wpAny_pure (wpAny_bind (wpAny_pure ?_)))
  exact wpAny_bind (pairs_same ha hb da db hits (wpAny_pure ⟨_, rfl, (fun x => nomatch x), h⟩))
end

/-- what a view is made of -/
inductive VD where
  | none
  | int (i : Int)
  | str (s : Str)
  | lst (xs : List VD)
  | tup (xs : List VD)
  | dct (ks : List (Str × VD))

abbrev tupObj (vs : List Value) : Obj := { cls := .type "tuple", data := .seq vs.toArray }
/-- the value shows V, over the ledger l -/
inductive ViewOf (w : World) (l : List (Addr × Obj)) : Nat → Value → VD → Prop where
  | none {n : Nat} : ViewOf w l n .none .none
  | int {n : Nat} (i : Int) (t : Tok) : ViewOf w l n (.int i t) (.int i)
  | str {n : Nat} (s : Str) (t : Tok) : ViewOf w l n (.str s t) (.str s)
  | lst {n : Nat} {a : Addr} {c : Nat} {xs : List Value} {Xs : List VD} : (a, listOf xs.toArray c) ∈ l → xs.length = Xs.length → (∀ (j : Nat) (h : j < xs.length) (h' : j < Xs.length), ViewOf w l n xs[j] Xs[j]) → ViewOf w l (n + 1) (.ref a) (.lst Xs)
  | tup {n : Nat} {a : Addr} {xs : List Value} {Xs : List VD} : (a, tupObj xs) ∈ l → xs.length = Xs.length → (∀ (j : Nat) (h : j < xs.length) (h' : j < Xs.length), ViewOf w l n xs[j] Xs[j]) → ViewOf w l (n + 1) (.ref a) (.tup Xs)
  | dct {n : Nat} {a : Addr} {o : Obj} {kvs : List (Str × Value)} {Ks : List (Str × VD)} : (a, o) ∈ l → o.IsDictOf (PySem.strKind PG w) kvs → (a == sysModules) = false → kvs.map (·.1) = Ks.map (·.1) → (∀ (j : Nat) (h : j < kvs.length) (h' : j < Ks.length), ViewOf w l n kvs[j].2 Ks[j].2) → ViewOf w l (n + 1) (.ref a) (.dct Ks)

theorem ViewOf.mono {w : World} {l l' : List (Addr × Obj)} {n : Nat} {v : Value} {V : VD} (h : ViewOf w l n v V) (hs : ∀ p ∈ l, p ∈ l') : ViewOf w l' n v V := by
  induction h with
  | none => exact .none
  | int i t => exact .int i t
  | str s t => exact .str s t
  | lst hm hl _ ih => exact .lst (hs _ hm) hl ih
  | tup hm hl _ ih => exact .tup (hs _ hm) hl ih
  | dct hm hd lo hl _ ih => exact .dct (hs _ hm) hd lo hl ih
theorem ViewOf.up {w : World} {l : List (Addr × Obj)} {n m : Nat} {v : Value} {V : VD} (h : ViewOf w l n v V) (hn : n ≤ m) : ViewOf w l m v V := by
  induction h generalizing m with
  | none => exact .none
  | int i t => exact .int i t
  | str s t => exact .str s t
  | lst hm hl _ ih => obtain ⟨k, rfl, hk⟩ := ge_succ hn; exact .lst hm hl fun j h h' => ih j h h' hk
  | tup hm hl _ ih => obtain ⟨k, rfl, hk⟩ := ge_succ hn; exact .tup hm hl fun j h h' => ih j h h' hk
  | dct hm hd lo hl _ ih => obtain ⟨k, rfl, hk⟩ := ge_succ hn; exact .dct hm hd lo hl fun j h h' => ih j h h' hk

theorem valueAt_at {K : Type} [DecidableEq K] : ∀ {kb : List (K × Value)} (_ : (kb.map (·.1)).Nodup) {j : Nat} (h : j < kb.length), valueAt kb kb[j].1 = some kb[j].2
  | (k, v) :: r, _, 0, _ => by simp [valueAt]
  | (k, v) :: r, hn, j + 1, h => by
    have h' : j < r.length := by simpa using h
    have hn' : (r.map (·.1)).Nodup := (List.nodup_cons.mp hn).2
    have hne : k ≠ r[j].1 := fun e => (List.nodup_cons.mp hn).1 (by rw [e]; exact List.mem_map.mpr ⟨r[j], List.getElem_mem h', rfl⟩)
    have ih := valueAt_at hn' h'
    simp only [List.getElem_cons_succ]
    rw [← ih]
    simp [valueAt, hne]

/-- alike views are found equal -/
theorem view_eq {w : World} {s : Shared} {l l' : List (Addr × Obj)} (hl : ∀ p ∈ l, s.heap.get? p.1 = some p.2) (hl' : ∀ p ∈ l', s.heap.get? p.1 = some p.2) {n : Nat} {v : Value} {V : VD} (h : ViewOf w l n v V) :
    ∀ {m : Nat} {v' : Value}, ViewOf w l' m v' V → ∀ {A : Around}, A.units + n < cLine → EqW w A s v v' := by
  induction h with
  | none => intro m v' h' A hu; cases h'; exact EqW.of (SeqAt.EqAt.same _)
  | int i t => intro m v' h' A hu; cases h'; rename_i u; have := SeqAt.EqAt.int_int (A := A) (s := s) i t i u; rw [beq_self_eq_true] at this; exact EqW.of this
  | str x t => intro m v' h' A hu; cases h'; rename_i u; have := SeqAt.EqAt.str_str (A := A) (s := s) x t x u; rw [beq_self_eq_true] at this; exact EqW.of this
  | lst hm hlen _ ih =>
    intro m v' h' A hu
    cases h' with
    | lst hm' hlen' hv' =>
      exact EqW.refs (RcW.lists ⟨_, hl _ hm, rfl, _, rfl⟩ ⟨_, hl' _ hm', rfl, _, rfl⟩ (by simpa only [List.size_toArray] using hlen.trans hlen'.symm) (un_lt hu) fun j h1 h2 => by
        simp only [List.size_toArray] at h1 h2
        simp only [List.getElem_toArray]
        exact ih j h1 (hlen ▸ h1) (hv' j h2 (hlen' ▸ h2)) (by simp only [units_in1]; exact un_room hu))
  | tup hm hlen _ ih =>
    intro m v' h' A hu
    cases h' with
    | tup hm' hlen' hv' =>
      exact EqW.refs (RcW.tuples ⟨_, hl _ hm, rfl, _, rfl⟩ ⟨_, hl' _ hm', rfl, _, rfl⟩ (by simpa only [List.size_toArray] using hlen.trans hlen'.symm) (un_lt hu) fun j h1 h2 => by
        simp only [List.size_toArray] at h1 h2
        simp only [List.getElem_toArray]
        exact ih j h1 (hlen ▸ h1) (hv' j h2 (hlen' ▸ h2)) (by simp only [units_in1]; exact un_room hu))
  | @dct n a o kvs Ks hm hd lo hk _ ih =>
    intro m v' h' A hu
    cases h' with
    | @dct m' a' o' kvs' _ hm' hd' lo' hk' hv' =>
      have e1 : kvs.length = Ks.length := by simpa using congrArg List.length hk
      have e2 : kvs'.length = Ks.length := by simpa using congrArg List.length hk'
      have D := Heap.dictOf_iff.mpr ⟨_, hl _ hm, hd⟩
      have D' := Heap.dictOf_iff.mpr ⟨_, hl' _ hm', hd'⟩
      have hn : (kvs'.map (·.1)).Nodup := let ⟨_, _, _, _, _, _, _, _, hn⟩ := D'; hn
      refine EqW.refs (RcW.dicts lo lo' D D' (un_lt hu) ⟨e1.trans e2.symm, fun p hp => ?_⟩)
      obtain ⟨j, hj, rfl⟩ := List.getElem_of_mem hp
      have hj' : j < kvs'.length := by rw [e2, ← e1]; exact hj
      have ek : kvs[j].1 = kvs'[j].1 := by
        have := congrArg (fun q => q[j]?) (hk.trans hk'.symm)
        simpa [hj, hj'] using this
      exact ⟨kvs'[j].2, by rw [ek]; exact valueAt_at hn hj', ih j hj (e1 ▸ hj) (hv' j hj' (e2 ▸ hj')) (by simp only [units_in1]; exact un_room hu)⟩
section
open LCg
variable {prog : Program} {w : World} {K : Type} [DecidableEq K] {A : Around} {E : Value → Shared → Prop} {s : Shared} {h₀ : Heap} {L : Addr} {m : Str → Option Value} {env : Env}

/-- what a dict comprehension over a dict's keys asks: Led what the pairs made and the ledger are ahead of turn i -/
inductive DSrc (knd : KeyKind prog w K) (A : Around) (h₀ : Heap) (L : Addr) (m : Str → Option Value) (env : Env) (kx vx : PySem.Expr) (x y : Str) (scope : Scope) (cl : List (Str × Addr)) (Q : Flow → Shared → Prop) (xv : Value) (s₁ : Shared) : Prop where
  | mk (ax : Addr) (o : Obj) (kvs : List (K × Value)) (nx₀ : List (Addr × Obj)) (Led : Nat → List (K × Value) → List (Addr × Obj) → Prop) (c0 : xv = .ref ax) (c1 : A.handled = none) (c2 : Fr h₀ L s₁.heap m) (c3 : News h₀ L s₁.heap nx₀) (c4 : o.IsDictOf knd kvs) (c5 : (ax == sysModules) = false) (c6 : h₀.NoLimit) (c7 : kvs.length ≤ sizeLine) (c8 : ∀ i ys nx, Led i ys nx → (ax, o) ∈ nx) (c9 : Led 0 [] nx₀) (c10 : ∀ i k y₀ v ys nx I oI C oC D oD m₂ h tk (E' : Value → Shared → Prop), kvs[i]? = some (k, y₀) → knd.is k v = true → Led i ys nx → NsObj oC m₂ → m₂ x = some v → Fr h₀ L h m → News h₀ L h ((I, oI) :: (C, oC) :: (D, oD) :: nx) → Off3 I C D nx → ((@Ne Nat I C) ∧ (@Ne Nat I D) ∧ (@Ne Nat C D)) →
      wpAny (model prog w) A (eval kx (compEnvC scope cl C env)) (fun key s₃ => knd.is k key = true ∧ wpAny (model prog w) A (eval vx (compEnvC scope cl C env)) (CompEnd h₀ L m { s₁ with heap := h, toks := tk } I oI C oC D oD (fun _ => True) (fun y nx' => Led (i + 1) (ys ++ [(k, y)]) nx')) E' s₃) E' { s₁ with heap := h, toks := tk }) (c11 : ∀ ys nx D oD h' tk', Led kvs.length ys nx → Fr h₀ L h' (fun z => if z = y then some (.ref D) else m z) → News h₀ L h' ((D, oD) :: nx) → Off1 D nx → oD.IsDictOf knd ys → (D == sysModules) = false → Q .next { s₁ with heap := h', toks := tk' }) : DSrc knd A h₀ L m env kx vx x y scope cl Q xv s₁

theorem dict_nodup {knd : KeyKind prog w K} {o : Obj} {kvs : List (K × Value)} (h : o.IsDictOf knd kvs) : (kvs.map (·.1)).Nodup := by
  obtain ⟨_, _, _, _, _, _, hn⟩ := h
  exact hn
theorem take_len {ys kvs : List (K × Value)} {i : Nat} (h : ys.map (·.1) = (kvs.take i).map (·.1)) (hi : i < kvs.length) : ys.length = i := by
  have := congrArg List.length h
  rw [List.length_map, List.length_map, List.length_take, Nat.min_eq_left (Nat.le_of_lt hi)] at this
  exact this
theorem stored_new {ys : List (K × Value)} {k : K} {v : Value} (h : k ∉ ys.map (·.1)) : stored ys k v = ys ++ [(k, v)] := by
  unfold stored
  rw [if_neg]
  intro hc
  first | (refine x1_2 (List.any_eq_true.mp hc) ?_; intro p hp e) | obtain ⟨p, hp, e⟩ := List.any_eq_true.mp hc
  exact h (List.mem_map.mpr ⟨p, hp, by simpa using e⟩)
theorem notin_take {kvs : List (K × Value)} (hn : (kvs.map (·.1)).Nodup) {i : Nat} {k : K} {y₀ : Value} (h : kvs[i]? = some (k, y₀)) : k ∉ (kvs.take i).map (·.1) := fun hm => by
  first | (refine x1_2 (List.mem_map.mp hm) ?_; intro p hp e) | obtain ⟨p, hp, e⟩ := List.mem_map.mp hm
  obtain ⟨j, hj, rfl⟩ := List.getElem_of_mem hp
  rw [List.length_take] at hj
  obtain ⟨hi, ei⟩ := List.getElem?_eq_some_iff.mp h
  have hji : j < i := Nat.lt_of_lt_of_le hj (Nat.min_le_left _ _)
  have hjk : j < (kvs.map (·.1)).length := by rw [List.length_map]; exact Nat.lt_trans hji hi
  have hik : i < (kvs.map (·.1)).length := by rw [List.length_map]; exact hi
  have e1 : (kvs.map (·.1))[j] = (kvs.map (·.1))[i] := by
    rw [List.getElem_map, List.getElem_map, ei]
    rw [List.getElem_take] at e
    exact e
  exact List.pairwise_iff_getElem.mp hn j i hjk hik hji e1

theorem dcomp_assign (knd : KeyKind prog w K) {kx vx iter : PySem.Expr} {x y : Str} {px py : Pos} {scope : Scope} {cl : List (Str × Addr)} {pos spos : Pos} {Q : Flow → Shared → Prop} (_F₀ : Fr h₀ L s.heap m) (hLe : env.locals = L)
    (hsw : swapsWith (.DictComp kx vx [⟨.Name x px, iter, [], 0⟩] scope pos) (some (.Name y py)) spos.line env = pure true)
    (hclos : closureFor scope env = pure cl) (hcell : ∀ z ∈ scope.names, z.2 ≠ .cell) (hkind : scope.kind = .function)
    (hnames : ∀ z ∈ scope.names, z.2 = .local → scope.names.lookup z.1 = some .local) (hx : scope.names.lookup x = some .local)
    (hy : env.kindOf y = some .local) (hp : (env.scope.kind == .class || (env.scope.kind == .module && env.locals != env.globals)) = false)
    (h : wpAny (model prog w) A (eval iter env) (DSrc knd A h₀ L m env kx vx x y scope cl Q) E s)
    (hs : ∀ x, foldedSetIterable iter env x = pure x := by intro _; rfl) :
    wpAny (model prog w) A (exec (.Assign [.Name y py] (.DictComp kx vx [⟨.Name x px, iter, [], 0⟩] scope pos) spos) env) Q E s := by
  subst hLe
  rw [exec_Assign_Name_used _ _ _ _ hsw]
  refine wpAny_bind (wpAny_standAt (wpAny_bind ?_))
  show wpAny _ A (do let _ ← comprehension (.DictComp kx vx [⟨.Name x px, iter, [], 0⟩] scope pos) scope env _ newDict false (eval iter env) (some (assign (.Name y py) env))) _ _ s
  refine wpAny_bind (wpAny_mono (wpAny_comprehension_free (use := some (assign (.Name y py) env)) (Q := fun _ s' => Q .next s') rfl hs hclos hkind hnames
    (wpAny_mono h (fun xv s₁ h₁ => ?_) fun _ _ e => e)) (fun _ s' hq => wpAny_pure (wpAny_pure hq)) fun _ _ e => e)
  obtain ⟨ax, o, kvs, nx₀, Led, rfl, hh, F, N, hd, lo, hnl, hsz, hin, hL0, turn, done⟩ := h₁
  have hax : s₁.heap.get? ax = some o := (N _ (hin _ _ _ hL0)).1
  have hdo : s₁.heap.DictOf knd ax kvs := Heap.dictOf_iff.mpr ⟨o, hax, hd⟩
  have hnd : (kvs.map (·.1)).Nodup := dict_nodup hd
  obtain ⟨ep, hat⟩ := hdo.dictAt
  have hatO : ∀ h' : Heap, h'.get? ax = some o → h'.DictAt knd ax kvs ep := fun h' e => hat.at' fun o' e' => by rw [hax] at e'; cases e'; exact e
  have hlt : ax < s₁.heap.objs.size := Heap.lt_size hax
  refine wpAny_pyIter_dict lo hat ?_
  have W := Walks.dictKeys (prog := prog) (w := w) (A := A) (knd := knd) hh s₁.heap.objs.size ax (Nat.ne_of_lt hlt) kvs ep
  generalize hI : s₁.heap.objs.size = I at W ⊢
  have hst0 : (s₁.heap.push { cls := .type "dict_keyiterator", data := .fields #[.ref ax, .int 0 0, .int kvs.length 0, .int ep 0] }).IsKeyIter I ax 0 kvs.length ep := ⟨_, by rw [← hI]; exact Heap.get?_push_size _ rfl, rfl, rfl⟩
  have hat1 := hatO (s₁.heap.push { cls := .type "dict_keyiterator", data := .fields #[.ref ax, .int 0 0, .int kvs.length 0, .int ep 0] }) (Heap.get?_push_of_some _ hax)
  have F1 : Fr h₀ env.locals (s₁.heap.push { cls := .type "dict_keyiterator", data := .fields #[.ref ax, .int 0 0, .int kvs.length 0, .int ep 0] }) m := F.push _
  have N1 : News h₀ env.locals (s₁.heap.push { cls := .type "dict_keyiterator", data := .fields #[.ref ax, .int 0 0, .int kvs.length 0, .int ep 0] }) nx₀ := N.pushKeep _
  have hIL : env.locals ≠ I := by rw [← hI]; exact Nat.ne_of_lt F.ns.lt
  have hI₀ : h₀.get? I = none := by rw [← hI]; exact next_is_new F
  have offI : ∀ p ∈ nx₀, p.1 ≠ I := fun p hp => by rw [← hI]; exact Nat.ne_of_lt (Heap.lt_size (N p hp).1)
  have hIlt : I < (s₁.heap.push { cls := .type "dict_keyiterator", data := .fields #[.ref ax, .int 0 0, .int kvs.length 0, .int ep 0] }).objs.size := by rw [Heap.size_push, hI]; exact Nat.lt_succ_self _
  generalize s₁.heap.push { cls := .type "dict_keyiterator", data := .fields #[.ref ax, .int 0 0, .int kvs.length 0, .int ep 0] } = G2 at hst0 hat1 F1 N1 hIlt ⊢
  refine wpAny_newObj_type (wpAny_newFunctionEnv hcell (by intro y hy; simp at hy) (fun h₁ hns₁ hsb₁ => ?_) hkind)
  (try dsimp only at hns₁ hsb₁ ⊢)
  have hnew : (G2.push { cls := .type "dict", dict := none, data := .dict #[] }).DictOf knd G2.objs.size [] := Heap.DictOf.new G2
  generalize hH2 : G2.push { cls := .type "dict", dict := none, data := .dict #[] } = H2 at hns₁ hsb₁ hnew ⊢
  have hC : H2.objs.size = G2.objs.size + 1 := by rw [← hH2, Heap.size_push]
  have hDC : G2.objs.size ≠ H2.objs.size := by rw [hC]; exact Nat.ne_of_lt (Nat.lt_succ_self _)
  have below : ∀ b, b < G2.objs.size → b ≠ H2.objs.size ∧ b ≠ G2.objs.size := fun b hb => ⟨by rw [hC]; exact Nat.ne_of_lt (Nat.lt_succ_of_lt hb), Nat.ne_of_lt hb⟩
  have old : ∀ b o, G2.get? b = some o → h₁.get? b = some o := fun b o e => hsb₁.extBut b o (below b (Heap.lt_size e)).1 (Heap.get?_push_of_some _ (hH2 ▸ Heap.get?_push_of_some _ e))
  first | (refine x1_2 (Heap.dictOf_iff.mp hnew) ?_; intro oD0 hD0g hD0d) | obtain ⟨oD0, hD0g, hD0d⟩ := Heap.dictOf_iff.mp hnew
  have hacc : h₁.get? G2.objs.size = some oD0 := hsb₁.extBut _ _ hDC (Heap.get?_push_of_some _ hD0g)
  have fresh₀ : ∀ a, G2.objs.size ≤ a → h₀.get? a = none := fun a ha => by
    cases e : h₀.get? a with
    | none => rfl
    | some o' => exact absurd (Heap.lt_size (F1.keep a o' e)) (Nat.not_lt.mpr ha)
  have hD₀ : h₀.get? G2.objs.size = none := fresh₀ _ (Nat.le_refl _)
  have hC₀ : h₀.get? H2.objs.size = none := fresh₀ _ (by rw [hC]; exact Nat.le_succ _)
  have hLlt : env.locals < G2.objs.size := F1.ns.lt
  have hDL : G2.objs.size ≠ env.locals := Ne.symm (below _ hLlt).2
  have hCL : H2.objs.size ≠ env.locals := Ne.symm (below _ hLlt).1
  have hCI : I ≠ H2.objs.size := (below I hIlt).1
  have hDI : I ≠ G2.objs.size := (below I hIlt).2
  have off₀ : Off3 I H2.objs.size G2.objs.size nx₀ := Off3.of fun p hp => ⟨offI p hp, (below _ (Heap.lt_size (N1 p hp).1)).1, (below _ (Heap.lt_size (N1 p hp).1)).2⟩
  have loD : (G2.objs.size == sysModules) = false := F1.notModules (modules_low hnl)
  have loop : ∀ s₃ : Shared, s₃ = { s₁ with heap := h₁, toks := s₁.toks + ([] : List (Str × Value)).length } →
      codeAny (model prog w) A (.compLoop (.DictComp kx vx [⟨.Name x px, iter, [], 0⟩] scope pos) 0 (.ref I) (.ref G2.objs.size) (compEnvC scope cl H2.objs.size env))
        (compPost (model prog w) A E (some (assign (.Name y py) env)) (fun _ s' => Q .next s') (.ref G2.objs.size) H2.objs.size) s₃ := by
    rintro s₃ rfl
    refine codeAny_compLoop_testsD
      (fun k s' => ∃ h' tk i ys m' nx oD, s' = { s₁ with heap := h', toks := tk } ∧ i ≤ kvs.length ∧ k = kvs.length + 1 - i ∧ ys.map (·.1) = (kvs.take i).map (·.1) ∧ h'.IsKeyIter I ax i kvs.length ep ∧ Fr h₀ env.locals h' m ∧ h'.Ns H2.objs.size m' ∧ News h₀ env.locals h' ((G2.objs.size, oD) :: nx) ∧
        oD.IsDictOf knd ys ∧ Off3 I H2.objs.size G2.objs.size nx ∧ Led i ys nx) ?_ (kvs.length + 1)
      ⟨h₁, _, 0, [], _, nx₀, oD0, rfl, Nat.zero_le _, rfl, rfl, hst0.at fun o e => old _ o e, F1.keeps old, hns₁, fun p hp => ?_, hD0d, off₀, hL0⟩
    · intro k s' qz0
      first | (refine x7_11 (qz0) ?_; intro h' tk i ys m' nx oD e7z hi e9z hyk hit' F' hn' N' hoD off' hL'; clear qz0; subst e7z; subst e9z) | obtain ⟨h', tk, i, ys, m', nx, oD, rfl, hi, rfl, hyk, hit', F', hn', N', hoD, off', hL'⟩ := qz0
      have hax' : h'.get? ax = some o := (N' _ (.tail _ (hin _ _ _ hL'))).1
      have off3 := off'.mem
      by_cases hlt : i < kvs.length
      · refine W.item i _ _ _ hlt ⟨hit', hatO _ hax'⟩ fun v h₂ tk₂ hPv hst₂ hk₂ => ?_
        first | (refine x2_2 (hPv) ?_; intro kk y₀ hkk hkv; clear hPv) | obtain ⟨kk, y₀, hkk, hkv⟩ := hPv
        refine wpAny_assign_Name (wpAny_storeName_local (lookup_relabel_local hx) (hn'.at' fun o e => hk₂ _ o (by simpa using Ne.symm hCI) e) (fun h₃ hn₃ hs₃ => ?_) (by simp [compEnvC, relabel, hkind]))
        refine wpAny_tests_nil ?_
        simp only [if_true]
        have hit₃ : h₃.IsKeyIter I ax (i + 1) kvs.length ep := hst₂.1.at fun o e => hs₃.extBut I o hCI e
        first | (refine x1_2 (id hit₃) ?_; intro oI heI hI2) | obtain ⟨oI, heI, hI2⟩ := id hit₃
        first | (refine x1_2 (ns_obj hn₃) ?_; intro oC heC hoC) | obtain ⟨oC, heC, hoC⟩ := ns_obj hn₃
        have F₃ : Fr h₀ env.locals h₃ m := (fr_but F' hk₂ hIL hI₀).change hs₃ hCL hC₀
        have N₂ : News h₀ env.locals h₂ ((G2.objs.size, oD) :: nx) := news_but N' hk₂ fun p hp => by
          rcases List.mem_cons.mp hp with rfl | hp
          · exact Ne.symm hDI
          · exact (off3 p hp).1
        have N₃ : News h₀ env.locals h₃ ((I, oI) :: (H2.objs.size, oC) :: (G2.objs.size, oD) :: nx) := fun p hp => by
          rcases List.mem_cons.mp hp with rfl | hp
          · exact ⟨heI, Ne.symm hIL, hI₀⟩
          · rcases List.mem_cons.mp hp with rfl | hp
            · exact ⟨heC, hCL, hC₀⟩
            · have z := N₂ p hp
              refine ⟨hs₃.extBut _ _ ?_ z.1, z.2⟩
              rcases List.mem_cons.mp hp with rfl | hp
              · exact hDC
              · exact (off3 p hp).2.1
        refine wpAny_mono (turn i kk y₀ v ys nx I oI H2.objs.size oC G2.objs.size oD _ h₃ _ _ hkk hkv hL' hoC (by simp) F₃ N₃ off' ⟨hCI, hDI, Ne.symm hDC⟩) (fun key s₄ h₄ => ?_) fun _ _ e => e
        obtain ⟨hkey, h₄⟩ := h₄
        refine wpAny_mono h₄ (fun yv s₅ h₅ => ?_) fun _ _ e => e
        obtain ⟨h₅, tk₅, nx₅, rfl, F₅, N₅, off₅, -, L₅⟩ := h₅
        have zI := (N₅ (I, oI) List.mem_cons_self).1
        have zC := (N₅ (H2.objs.size, oC) (List.mem_cons_of_mem _ List.mem_cons_self)).1
        have zD := (N₅ (G2.objs.size, oD) (List.mem_cons_of_mem _ (List.mem_cons_of_mem _ List.mem_cons_self))).1
        have N₅' : News h₀ env.locals h₅ nx₅ := fun p hp => N₅ p (List.mem_cons_of_mem _ (List.mem_cons_of_mem _ (List.mem_cons_of_mem _ hp)))
        have hnk : kk ∉ ys.map (·.1) := by rw [hyk]; exact notin_take hnd hkk
        have hyl : ys.length = i := take_len hyk hlt
        refine wpAny_dictSet_pairs (hsz := hyl ▸ Nat.le_trans (Nat.le_of_lt hlt) hsz) hkey (Heap.dictOf_iff.mpr ⟨oD, zD, hoD⟩) fun h₆ hl₆ hs₆ => ?_
        rw [stored_new hnk] at hl₆
        first | (refine x1_2 (Heap.dictOf_iff.mp hl₆) ?_; intro oD6 hg6 hd6) | obtain ⟨oD6, hg6, hd6⟩ := Heap.dictOf_iff.mp hl₆
        have off5 := off₅.mem
        refine ⟨kvs.length + 1 - (i + 1), Nat.sub_lt_sub_left (Nat.lt_succ_of_lt hlt) (Nat.lt_succ_self i), h₆, _, i + 1, ys ++ [(kk, yv)], _, nx₅, oD6, rfl, hlt, rfl, ?_, ⟨oI, hs₆.extBut _ _ hDI zI, hI2⟩, F₅.change hs₆ hDL hD₀, (hoC.ns zC).sameBut hs₆ (Ne.symm hDC), fun p hp => ?_, hd6, off₅, L₅⟩
        · rw [List.map_append, hyk, List.take_add_one, hkk, List.map_append]; rfl
        · rcases List.mem_cons.mp hp with rfl | hp
          · exact ⟨hg6, hDL, hD₀⟩
          · exact ⟨hs₆.extBut _ _ (off5 p hp).2.2 (N₅' p hp).1, (N₅' p hp).2⟩
      · obtain rfl : i = kvs.length := Nat.le_antisymm hi (Nat.not_lt.mp hlt)
        refine W.done _ _ _ ⟨hit', hatO _ hax'⟩ fun h₂ tk₂ hk₂ => ?_
        have F₂ := fr_but F' hk₂ hIL hI₀
        have N₂ : News h₀ env.locals h₂ ((G2.objs.size, oD) :: nx) := news_but N' hk₂ fun p hp => by
          rcases List.mem_cons.mp hp with rfl | hp
          · exact Ne.symm hDI
          · exact (off3 p hp).1
        have hnC := hn'.at' (h' := h₂) fun o e => hk₂ _ o (by simpa using Ne.symm hCI) e
        show wpAny _ A (assign (.Name y py) env (.ref G2.objs.size)) _ _ _
        refine wpAny_assign_Name (wpAny_storeName_local hy F₂.ns (fun h₃ hn₃ hs₃ => ?_) hp)
        have hL₀ : h₀.get? env.locals = none := Heap.get?_none_of_le F'.above
        have F₃ : Fr h₀ env.locals h₃ (fun z => if z = y then some (.ref G2.objs.size) else m z) := ⟨hn₃, fun b o e => hs₃.extBut b o (fun q => by rw [q, hL₀] at e; cases e) (F₂.keep b o e), F'.above⟩
        refine ⟨m', hnC.sameBut hs₃ hCL, fun h'' hs'' => done ys nx G2.objs.size oD h'' _ hL' (F₃.change hs'' hCL hC₀) (fun p hp => ?_) off'.one hoD loD⟩
        have z : h₃.get? p.1 = some p.2 := hs₃.extBut _ _ (N₂ p hp).2.1 (N₂ p hp).1
        refine ⟨hs''.extBut _ _ ?_ z, (N₂ p hp).2⟩
        rcases List.mem_cons.mp hp with rfl | hp
        · exact hDC
        · exact (off3 p hp).2.1
    · rcases List.mem_cons.mp hp with rfl | hp
      · exact ⟨hacc, hDL, hD₀⟩
      · exact ⟨old _ _ (N1 p hp).1, (N1 p hp).2⟩
  exact codeAny_compStart_dict (loop _ rfl) (W.self 0 _ _ _ ⟨hst0.at fun o e => old _ o e, hat1.at' fun o e => old _ o e⟩ (loop _ rfl))
end
local macro_rules | `(tactic| walk_at "m_none0") => `(tactic| skip)
theorem fresh_C1 : True := by
  w_top off
  trivial
section
variable {w : World} {loose : List Str} {mean : ExcName → Option Value} {mg mb : Str → Option Value} {H₀ H : Heap}

local macro_rules | `(tactic| walk_at "call builtin:dict.get") => `(tactic| refine Stop.go ?_)
set_option maxHeartbeats 2000000 in
theorem getattr_none (G : Gr w loose mean mg mb H₀) {l : List (Addr × Obj)} {x : Addr} {kd nm : Str} {its : List Value} {t : Tok} (V : Val H₀ H l) (hx : Vec w l x kd its .none) :
    Ctr w H₀ 28 [.ref x, .str nm t] 2 20 H [] (fun _ r => r = .none) := by
  obtain ⟨dx, t1, t2, t3, t4, t5, tk, li, n, h1, h2, h3⟩ := hx
  have hv := V.pick h1 (V.pick h2 Val.nil)
  intro dp un fr gd s Q E eH st hdp hun hret
  subst eH
  have hvE : Val H₀ s.heap _ := hv
  walk_at "m_fill"
  refine wpAny_call ?_
  k_dflt (refine' enterR G st _ hvE ?k6 ?k7 ?k8 ?k9 ?kB ?_ ?c2 ?c3 ?c4 ?c5; walk_at "m_rest0")
  intro g L h0 tk0 F N X T stg S l1
  refine hideQ (Q := Q) (fun _ _ x => x) ?_
  intro Q9 hQ9
  replace hret := hideR hQ9 hret
  clear hQ9
  show (let e9 := envOf _ _ _ _ _; wpAny _ (Around.deeper _ e9) (execs _ e9) _ _ _)
  intro e9
  (try k_lt l1)
  (try dsimp only)
  (try k_fold)
  k_steps
  exact hret _ _ _ (keep_now (by assumption) hv (by assumption) (by assumption) [] (fun p hp _ => hp)) rfl

set_option maxHeartbeats 2000000 in
theorem getattr_dict (G : Gr w loose mean mg mb H₀) {l : List (Addr × Obj)} {x d : Addr} {kd nm : Str} {its : List Value} {t : Tok} {kvs : List (Str × Value)} (V : Val H₀ H l) (hx : Vec w l x kd its (.ref d)) (hd : Dct w l d kvs) (ov : Option Value) (hov : valueAt kvs nm = ov) :
    Ctr w H₀ 28 [.ref x, .str nm t] 2 20 H [] (fun _ r => r = ov.getD .none) := by
  obtain ⟨dx, t1, t2, t3, t4, t5, tk, li, n, h1, h2, h3⟩ := hx
  obtain ⟨od, hd1, hd2, lo⟩ := hd
  have hv := V.pick h1 (V.pick h2 (V.pick hd1 Val.nil))
  intro dp un fr gd s Q E eH st hdp hun hret
  subst eH
  have hvE : Val H₀ s.heap _ := hv
  walk_at "m_fill"
  refine wpAny_call ?_
  k_dflt (refine' enterR G st _ hvE ?k6 ?k7 ?k8 ?k9 ?kB ?_ ?c2 ?c3 ?c4 ?c5; walk_at "m_rest0")
  intro g L h0 tk0 F N X T stg S l1
  refine hideQ (Q := Q) (fun _ _ x => x) ?_
  intro Q9 hQ9
  replace hret := hideR hQ9 hret
  clear hQ9
  show (let e9 := envOf _ _ _ _ _; wpAny _ (Around.deeper _ e9) (execs _ e9) _ _ _)
  intro e9
  (try k_lt l1)
  (try dsimp only)
  (try k_fold)
  k_steps
  unfold Stop
  refine kdg_get1 (knd := PySem.strKind _ _) (by assumption) (by k_mem) (by assumption) (by assumption) (strKind_is _ _ _ _) _ hov ?_
  k_steps
  exact hret _ _ _ (keep_now (by assumption) hv (by assumption) (by assumption) [] (fun p hp _ => hp)) rfl

set_option maxHeartbeats 2000000 in
theorem attribute_none (G : Gr w loose mean mg mb H₀) {l : List (Addr × Obj)} {x : Addr} {kd nm : Str} {its : List Value} {t : Tok} (V : Val H₀ H l) (hx : Vec w l x kd its .none) :
    Ctr w H₀ 317 [.ref x, .str nm t] 2 20 H [] (fun _ r => r = .none) := by
  obtain ⟨dx, t1, t2, t3, t4, t5, tk, li, n, h1, h2, h3⟩ := hx
  have hv := V.pick h1 (V.pick h2 Val.nil)
  intro dp un fr gd s Q E eH st hdp hun hret
  subst eH
  have hvE : Val H₀ s.heap _ := hv
  walk_at "m_fill"
  refine wpAny_call ?_
  k_dflt (refine' enterR G st _ hvE ?k6 ?k7 ?k8 ?k9 ?kB ?_ ?c2 ?c3 ?c4 ?c5; walk_at "m_rest0")
  intro g L h0 tk0 F N X T stg S l1
  refine hideQ (Q := Q) (fun _ _ x => x) ?_
  intro Q9 hQ9
  replace hret := hideR hQ9 hret
  clear hQ9
  show (let e9 := envOf _ _ _ _ _; wpAny _ (Around.deeper _ e9) (execs _ e9) _ _ _)
  intro e9
  (try k_lt l1)
  (try dsimp only)
  (try k_fold)
  k_steps
  exact hret _ _ _ (keep_now (by assumption) hv (by assumption) (by assumption) [] (fun p hp _ => hp)) rfl

set_option maxHeartbeats 2000000 in
theorem attribute_dict (G : Gr w loose mean mg mb H₀) {l : List (Addr × Obj)} {x d : Addr} {kd nm : Str} {its : List Value} {t : Tok} {kvs : List (Str × Value)} (V : Val H₀ H l) (hx : Vec w l x kd its (.ref d)) (hd : Dct w l d kvs) (ov : Option Value) (hov : valueAt kvs nm = ov) :
    Ctr w H₀ 317 [.ref x, .str nm t] 2 20 H [] (fun _ r => r = ov.getD .none) := by
  obtain ⟨dx, t1, t2, t3, t4, t5, tk, li, n, h1, h2, h3⟩ := hx
  obtain ⟨od, hd1, hd2, lo⟩ := hd
  have hv := V.pick h1 (V.pick h2 (V.pick hd1 Val.nil))
  intro dp un fr gd s Q E eH st hdp hun hret
  subst eH
  have hvE : Val H₀ s.heap _ := hv
  walk_at "m_fill"
  refine wpAny_call ?_
  k_dflt (refine' enterR G st _ hvE ?k6 ?k7 ?k8 ?k9 ?kB ?_ ?c2 ?c3 ?c4 ?c5; walk_at "m_rest0")
  intro g L h0 tk0 F N X T stg S l1
  refine hideQ (Q := Q) (fun _ _ x => x) ?_
  intro Q9 hQ9
  replace hret := hideR hQ9 hret
  clear hQ9
  show (let e9 := envOf _ _ _ _ _; wpAny _ (Around.deeper _ e9) (execs _ e9) _ _ _)
  intro e9
  (try k_lt l1)
  (try dsimp only)
  (try k_fold)
  k_steps
  unfold Stop
  refine kdg_get1 (knd := PySem.strKind _ _) (by assumption) (by k_mem) (by assumption) (by assumption) (strKind_is _ _ _ _) _ hov ?_
  k_steps
  exact hret _ _ _ (keep_now (by assumption) hv (by assumption) (by assumption) [] (fun p hp _ => hp)) rfl

set_option maxHeartbeats 2000000 in
theorem length_ctr (G : Gr w loose mean mg mb H₀) {l : List (Addr × Obj)} {x : Addr} {kd : Str} {its : List Value} {av : Value} {n : Int} (V : Val H₀ H l) (hx : Vec w l x kd its av) (hk : kd = sI ∨ kd = sL) (hn : (its.length : Int) = n) (hfit : n < 1000) :
    Ctr w H₀ 268 [.ref x] 2 20 H [] (fun _ r => ∃ t, r = .int n t) := by
  obtain ⟨dx, t1, t2, t3, t4, t5, tk, li, n', h1, h2, h3⟩ := hx
  have hv := V.pick h1 (V.pick h2 (V.pick h3 Val.nil))
  rcases hk with rfl | rfl
  all_goals (
    intro dp un fr gd s Q E eH st hdp hun hret
    subst eH
    have hvE : Val H₀ s.heap _ := hv
    walk_at "m_fill"
    refine wpAny_call ?_
    k_dflt (refine' enterR G st _ hvE ?k6 ?k7 ?k8 ?k9 ?kB ?_ ?c2 ?c3 ?c4 ?c5; walk_at "m_rest0")
    intro g L h0 tk0 F N X T stg S l1
    refine hideQ (Q := Q) (fun _ _ x => x) ?_
    intro Q9 hQ9
    replace hret := hideR hQ9 hret
    clear hQ9
    show (let e9 := envOf _ _ _ _ _; wpAny _ (Around.deeper _ e9) (execs _ e9) _ _ _)
    intro e9
    (try k_lt l1)
    (try dsimp only)
    (try k_fold)
    k_steps
    exact hret _ _ _ (keep_now (by assumption) hv (by assumption) (by assumption) [] (fun p hp _ => hp)) ⟨_, by rw [hn]⟩)
end
local macro_rules | `(tactic| walk_at "call ref") => `(tactic| ((with_reducible show wpAny _ _ (call (Value.ref 268) _) _ _ _); k_dflt (refine' go0 (length_ctr ‹_› ?V ?ox ?kx ?nx ?fit) ‹_› ‹_› ‹_› ?r ?_; (case ox => assumption); (case kx => assumption); (case nx => assumption); walk_at "m_vk"; (case fit => omega); walk_at "m_p1")))
local macro_rules | `(tactic| walk_at "m_none1") => `(tactic| skip)
theorem fresh_C2 : True := by
  w_top off
  trivial
section
variable {w : World} {loose : List Str} {mean : ExcName → Option Value} {mg mb : Str → Option Value} {H₀ H : Heap}

/-- the ints of two places -/
theorem IntsAre.two {a b : Int} {ta tb : Tok} : IntsAre [.int a ta, .int b tb] [a, b] := .cons _ _ (.cons _ _ .nil)

/-- a matrix's row of attributes: its dims a, b, and what stands under dimnames -/
inductive DimA (w : World) (l : List (Addr × Obj)) (av : Value) (a b : Int) (hs : List (Str × Value)) : Prop where
  | mk (d y : Addr) (ta tb : Tok) (h1 : av = .ref d) (h2 : Dct w l d ((sDim, .ref y) :: hs)) (h3 : Vec w l y sI [.int a ta, .int b tb] .none) : DimA w l av a b hs
/-- a row of attributes without dims -/
def NoDim (w : World) (l : List (Addr × Obj)) (av : Value) : Prop := av = .none ∨ ∃ d v, av = .ref d ∧ Dct w l d [(sNm, v)]

set_option maxHeartbeats 2000000 in
theorem dimof_mat (G : Gr w loose mean mg mb H₀) {l : List (Addr × Obj)} {x : Addr} {kd : Str} {its : List Value} {av : Value} {a b : Int} {hs : List (Str × Value)} (V : Val H₀ H l) (hx : Vec w l x kd its av) (hA : DimA w l av a b hs) :
    Ctr w H₀ 35 [.ref x] 4 40 H [] (fun h' r => ∃ li ta tb n, r = .ref li ∧ H.get? li = none ∧ h'.get? li = some (listOf [.int a ta, .int b tb].toArray n) ∧ IntsAre [.int a ta, .int b tb] [a, b]) := by
  obtain ⟨d, y, ta, tb, rfl, hD, hy⟩ := hA
  obtain ⟨dy, u1, u2, u3, u4, u5, uk, ly, m, g1, g2, g3⟩ := id hy
  have hv := V.pick g1 (V.pick g2 (V.pick g3 Val.nil))
  intro dp un fr gd s Q E eH st hdp hun hret
  subst eH
  have hvE : Val H₀ s.heap _ := hv
  walk_at "m_fill"
  refine wpAny_call ?_
  k_dflt (refine' enterR G st _ hvE ?k6 ?k7 ?k8 ?k9 ?kB ?_ ?c2 ?c3 ?c4 ?c5; walk_at "m_rest0")
  intro g L h0 tk0 F N X T stg S l1
  refine hideQ (Q := Q) (fun _ _ x => x) ?_
  intro Q9 hQ9
  replace hret := hideR hQ9 hret
  clear hQ9
  show (let e9 := envOf _ _ _ _ _; wpAny _ (Around.deeper _ e9) (execs _ e9) _ _ _)
  intro e9
  (try k_lt l1)
  (try dsimp only)
  (try k_fold)
  k_steps
  (try unfold Stop)
  refine go0 (getattr_dict G (V.keep (by walk_at "m_keep")) hx hD (some (.ref y)) rfl) (by assumption) (by assumption) (by assumption) ⟨by walk_at "m_room", by walk_at "m_room"⟩ ?_
  intro rr1 hh1 tk1 kp1 ps1 F1 N1
  dsimp only [Option.getD] at ps1
  subst ps1
  k_steps
  exact hret _ _ _ (by walk_at "m_keep") ⟨_, ta, tb, _, rfl, by walk_at "m_fresh", by walk_at "m_got", IntsAre.two⟩

set_option maxHeartbeats 2000000 in
theorem dimof_no (G : Gr w loose mean mg mb H₀) {l : List (Addr × Obj)} {x : Addr} {kd : Str} {its : List Value} {av : Value} (V : Val H₀ H l) (hx : Vec w l x kd its av) (hA : NoDim w l av) :
    Ctr w H₀ 35 [.ref x] 4 40 H [] (fun _ r => r = .none) := by
  rcases hA with rfl | ⟨d, nv, rfl, hD⟩
  · intro dp un fr gd s Q E eH st hdp hun hret
    subst eH
    have hvE : Val H₀ s.heap _ := (Val.nil : Val H₀ s.heap [])
    walk_at "m_fill"
    refine wpAny_call ?_
    k_dflt (refine' enterR G st _ hvE ?k6 ?k7 ?k8 ?k9 ?kB ?_ ?c2 ?c3 ?c4 ?c5; walk_at "m_rest0")
    intro g L h0 tk0 F N X T stg S l1
    refine hideQ (Q := Q) (fun _ _ x => x) ?_
    intro Q9 hQ9
    replace hret := hideR hQ9 hret
    clear hQ9
    show (let e9 := envOf _ _ _ _ _; wpAny _ (Around.deeper _ e9) (execs _ e9) _ _ _)
    intro e9
    (try k_lt l1)
    (try dsimp only)
    (try k_fold)
    k_steps
    (try unfold Stop)
    refine go0 (getattr_none G (V.keep (by walk_at "m_keep")) hx) (by assumption) (by assumption) (by assumption) ⟨by walk_at "m_room", by walk_at "m_room"⟩ ?_
    intro rr1 hh1 tk1 kp1 ps1 F1 N1
    subst ps1
    k_steps
    exact hret _ _ _ (by walk_at "m_keep") rfl
  · intro dp un fr gd s Q E eH st hdp hun hret
    subst eH
    have hvE : Val H₀ s.heap _ := (Val.nil : Val H₀ s.heap [])
    walk_at "m_fill"
    refine wpAny_call ?_
    k_dflt (refine' enterR G st _ hvE ?k6 ?k7 ?k8 ?k9 ?kB ?_ ?c2 ?c3 ?c4 ?c5; walk_at "m_rest0")
    intro g L h0 tk0 F N X T stg S l1
    refine hideQ (Q := Q) (fun _ _ x => x) ?_
    intro Q9 hQ9
    replace hret := hideR hQ9 hret
    clear hQ9
    show (let e9 := envOf _ _ _ _ _; wpAny _ (Around.deeper _ e9) (execs _ e9) _ _ _)
    intro e9
    (try k_lt l1)
    (try dsimp only)
    (try k_fold)
    k_steps
    (try unfold Stop)
    refine go0 (getattr_dict G (V.keep (by walk_at "m_keep")) hx hD none rfl) (by assumption) (by assumption) (by assumption) ⟨by walk_at "m_room", by walk_at "m_room"⟩ ?_
    intro rr1 hh1 tk1 kp1 ps1 F1 N1
    dsimp only [Option.getD] at ps1
    subst ps1
    k_steps
    exact hret _ _ _ (by walk_at "m_keep") rfl
end
local macro_rules | `(tactic| walk_at "call ref") => `(tactic| ((with_reducible show wpAny _ _ (call (Value.ref 35) _) _ _ _); k_dflt (refine' go0 (dimof_mat ‹_› ?V ?ox ?dx) ‹_› ‹_› ‹_› ?r ?_; (case ox => assumption); (case dx => assumption); walk_at "m_vk"; (case r => walk_at "m_rm"); intro r9 h9 tk9 kp9 ps9 F' N'; revert ps9; revert r9; refine y4_3 ?_; intro l9 ta9 tb9 n9 f9 g9 i9; (have N' := news_cons ‹_› f9 g9 N'); walk_at "m_df")))
local macro_rules | `(tactic| walk_at "call ref") => `(tactic| ((with_reducible show wpAny _ _ (call (Value.ref 35) _) _ _ _); k_dflt (refine' go0 (dimof_no ‹_› ?V ?ox ?dx) ‹_› ‹_› ‹_› ?r ?_; (case ox => assumption); (case dx => assumption); walk_at "m_vk"; (case r => walk_at "m_rm"); intro r9 h9 tk9 kp9 ps9 F' N'; subst ps9; walk_at "m_df")))
theorem fresh_C3 : True := by
  w_top off
  trivial
section
variable {w : World} {loose : List Str} {mean : ExcName → Option Value} {mg mb : Str → Option Value} {H₀ H : Heap}

set_option maxHeartbeats 2000000 in
theorem product_ctr (G : Gr w loose mean mg mb H₀) {l : List (Addr × Obj)} {li n : Nat} {a b N : Int} {ta tb : Tok} (V : Val H₀ H l) (hl : (li, listOf [.int a ta, .int b tb].toArray n) ∈ l) (ha : 1 ≤ a ∧ a ≤ 3) (hb : 1 ≤ b ∧ b ≤ 3) (hN : a * b = N) :
    Ctr w H₀ 289 [.ref li] 2 20 H [] (fun _ r => ∃ t, r = .int N t) := by
  obtain ⟨ha1, ha2⟩ := ha
  obtain ⟨hb1, hb2⟩ := hb
  intro dp un fr gd s Q E eH st hdp hun hret
  subst eH
  have hvE : Val H₀ s.heap _ := V.pick hl Val.nil
  walk_at "m_fill"
  refine wpAny_call ?_
  k_dflt (refine' enterR G st _ hvE ?k6 ?k7 ?k8 ?k9 ?kB ?_ ?c2 ?c3 ?c4 ?c5; walk_at "m_rest0")
  intro g L h0 tk0 F N X T stg S l1
  refine hideQ (Q := Q) (fun _ _ x => x) ?_
  intro Q9 hQ9
  replace hret := hideR hQ9 hret
  clear hQ9
  show (let e9 := envOf _ _ _ _ _; wpAny _ (Around.deeper _ e9) (execs _ e9) _ _ _)
  intro e9
  (try k_lt l1)
  (try dsimp only)
  (try k_fold)
  k_steps
  (try dsimp only)
  exact hret _ _ _ (by walk_at "m_keep") ⟨_, by rw [Int.one_mul, hN]⟩

set_option maxHeartbeats 2000000 in
theorem recycle_ctr (G : Gr w loose mean mg mb H₀) {n m N : Int} {t u : Tok} (hn : 1 ≤ n ∧ n ≤ N) (hm : 1 ≤ m ∧ m ≤ N) (hN : n = N ∨ m = N) (hb : N ≤ 1000) :
    Ctr w H₀ 275 [.int n t, .int m u] 2 20 H [] (fun _ r => ∃ t, r = .int N t) := by
  obtain ⟨hn1, hn2⟩ := hn
  obtain ⟨hm1, hm2⟩ := hm
  intro dp un fr gd s Q E eH st hdp hun hret
  subst eH
  have hvE : Val H₀ s.heap _ := (Val.nil : Val H₀ s.heap [])
  walk_at "m_fill"
  refine wpAny_call ?_
  k_dflt (refine' enterR G st _ hvE ?k6 ?k7 ?k8 ?k9 ?kB ?_ ?c2 ?c3 ?c4 ?c5; walk_at "m_rest0")
  intro g L h0 tk0 F N X T stg S l1
  refine hideQ (Q := Q) (fun _ _ x => x) ?_
  intro Q9 hQ9
  replace hret := hideR hQ9 hret
  clear hQ9
  show (let e9 := envOf _ _ _ _ _; wpAny _ (Around.deeper _ e9) (execs _ e9) _ _ _)
  intro e9
  (try k_lt l1)
  (try dsimp only)
  (try k_fold)
  k_steps
  all_goals (try (exfalso; omega))
  (try dsimp only)
  have e : (if m > n then m else n) = N := by split <;> omega
  rw [e]
  exact hret _ _ _ (by walk_at "m_keep") ⟨_, rfl⟩

theorem recycle_l (G : Gr w loose mean mg mb H₀) {n m : Int} {t u : Tok} (hm : 1 ≤ m ∧ m ≤ n) (hb : n ≤ 1000) : Ctr w H₀ 275 [.int n t, .int m u] 2 20 H [] (fun _ r => ∃ t, r = .int n t) := recycle_ctr G (by omega) hm (.inl rfl) hb
theorem recycle_r (G : Gr w loose mean mg mb H₀) {n m : Int} {t u : Tok} (hn : 1 ≤ n ∧ n ≤ m) (hb : m ≤ 1000) : Ctr w H₀ 275 [.int n t, .int m u] 2 20 H [] (fun _ r => ∃ t, r = .int m t) := recycle_ctr G hn (by omega) (.inr rfl) hb

theorem recycle_N (G : Gr w loose mean mg mb H₀) {n m N : Int} {t u : Tok} (hn : 1 ≤ n ∧ n ≤ N) (hm : 1 ≤ m ∧ m ≤ N) (h : n = N ∨ m = N) (hb : N ≤ 1000) : Ctr w H₀ 275 [.int n t, .int m u] 2 20 H [] (fun _ r => ∃ t, r = .int N t) := by
  rcases h with rfl | rfl
  · exact recycle_l G hm hb
  · exact recycle_r G hn hb
end
local macro_rules | `(tactic| walk_at "call ref") => `(tactic| ((with_reducible show wpAny _ _ (call (Value.ref 275) _) _ _ _); k_dflt ((first | refine' go0 (recycle_l ‹_› (by omega) (by omega)) ‹_› ‹_› ‹_› ?r ?_ | refine' go0 (recycle_r ‹_› (by omega) (by omega)) ‹_› ‹_› ‹_› ?r ?_); walk_at "m_p1")))
local macro_rules | `(tactic| walk_at "call ref") => `(tactic| ((with_reducible show wpAny _ _ (call (Value.ref 289) _) _ _ _); k_dflt (refine' go0 (product_ctr ‹_› (val_now ‹_› ‹_›) (by k_mem) ‹_› ‹_› ‹_›) ‹_› ‹_› ‹_› ?r ?_; walk_at "m_p1")))
theorem fresh_C4 : True := by
  w_top off
  trivial
section
variable {w : World} {loose : List Str} {mean : ExcName → Option Value} {mg mb : Str → Option Value} {H₀ H : Heap}

theorem rng1 {n N : Int} (h : n = N ∨ n = 1) (h1 : 1 ≤ N) : 1 ≤ n ∧ n ≤ N := by
  rcases h with rfl | rfl
  · exact ⟨h1, Int.le_refl _⟩
  · exact ⟨Int.le_refl _, h1⟩

set_option maxHeartbeats 2000000 in
theorem resultdim_mm (G : Gr w loose mean mg mb H₀) {l : List (Addr × Obj)} {x y : Addr} {kx ky : Str} {ix iy : List Value} {ax ay : Value} {N a b : Int} {hx hy : List (Str × Value)} (V : Val H₀ H l)
    (ox : Vec w l x kx ix ax) (oy : Vec w l y ky iy ay) (kx' : kx = sI ∨ kx = sL) (ky' : ky = sI ∨ ky = sL) (nx : (ix.length : Int) = N) (ny : (iy.length : Int) = N) (dx : DimA w l ax a b hx) (dy : DimA w l ay a b hy) (hN : N < 100) :
    Ctr w H₀ 296 [.ref x, .ref y] 8 80 H [] (fun h' r => ∃ li ta tb n, r = .ref li ∧ H.get? li = none ∧ h'.get? li = some (listOf [.int a ta, .int b tb].toArray n)) := by
  intro dp un fr gd s Q E eH st hdp hun hret
  subst eH
  have hvE : Val H₀ s.heap _ := (Val.nil : Val H₀ s.heap [])
  walk_at "m_fill"
  refine wpAny_call ?_
  k_dflt (refine' enterR (binds := [(Str.ofString "u", .ref x), (Str.ofString "v", .ref y)]) G st _ hvE ?k6 ?k7 ?k8 ?k9 ?kB ?_ ?c2 ?c3 ?c4 ?c5; walk_at "m_rest0")
  intro g L h0 tk0 F N X T stg S l1
  refine hideQ (Q := Q) (fun _ _ x => x) ?_
  intro Q9 hQ9
  replace hret := hideR hQ9 hret
  clear hQ9
  show (let e9 := envOf _ _ _ _ _; wpAny _ (Around.deeper _ e9) (execs _ e9) _ _ _)
  intro e9
  (try k_lt l1)
  (try dsimp only)
  (try k_fold)
  k_steps
  (try dsimp only)
  exact hret _ _ _ (by walk_at "m_keep") ⟨_, _, _, _, rfl, by walk_at "m_fresh", by walk_at "m_got"⟩

set_option maxHeartbeats 2000000 in
theorem resultdim_mv (G : Gr w loose mean mg mb H₀) {l : List (Addr × Obj)} {x y : Addr} {kx ky : Str} {ix iy : List Value} {ax ay : Value} {N M a b : Int} {hx : List (Str × Value)} (V : Val H₀ H l)
    (ox : Vec w l x kx ix ax) (oy : Vec w l y ky iy ay) (kx' : kx = sI ∨ kx = sL) (ky' : ky = sI ∨ ky = sL) (nx : (ix.length : Int) = N) (ny : (iy.length : Int) = M) (dx : DimA w l ax a b hx) (dy : NoDim w l ay)
    (hN : a * b = N) (hM : M = N ∨ M = 1) (h1 : 1 ≤ N) (hb : N < 100) (ha : 1 ≤ a ∧ a ≤ 3) (hb' : 1 ≤ b ∧ b ≤ 3) :
    Ctr w H₀ 296 [.ref x, .ref y] 8 80 H [] (fun h' r => ∃ li ta tb n, r = .ref li ∧ H.get? li = none ∧ h'.get? li = some (listOf [.int a ta, .int b tb].toArray n)) := by
  replace hM := rng1 hM h1
  intro dp un fr gd s Q E eH st hdp hun hret
  subst eH
  have hvE : Val H₀ s.heap _ := (Val.nil : Val H₀ s.heap [])
  walk_at "m_fill"
  refine wpAny_call ?_
  k_dflt (refine' enterR (binds := [(Str.ofString "u", .ref x), (Str.ofString "v", .ref y)]) G st _ hvE ?k6 ?k7 ?k8 ?k9 ?kB ?_ ?c2 ?c3 ?c4 ?c5; walk_at "m_rest0")
  intro g L h0 tk0 F N X T stg S l1
  refine hideQ (Q := Q) (fun _ _ x => x) ?_
  intro Q9 hQ9
  replace hret := hideR hQ9 hret
  clear hQ9
  show (let e9 := envOf _ _ _ _ _; wpAny _ (Around.deeper _ e9) (execs _ e9) _ _ _)
  intro e9
  (try k_lt l1)
  (try dsimp only)
  (try k_fold)
  k_steps
  all_goals (try dsimp only)
  all_goals exact hret _ _ _ (by walk_at "m_keep") ⟨_, _, _, _, rfl, by walk_at "m_fresh", by walk_at "m_got"⟩

set_option maxHeartbeats 2000000 in
theorem resultdim_vm (G : Gr w loose mean mg mb H₀) {l : List (Addr × Obj)} {x y : Addr} {kx ky : Str} {ix iy : List Value} {ax ay : Value} {N M a b : Int} {hy : List (Str × Value)} (V : Val H₀ H l)
    (ox : Vec w l x kx ix ax) (oy : Vec w l y ky iy ay) (kx' : kx = sI ∨ kx = sL) (ky' : ky = sI ∨ ky = sL) (nx : (ix.length : Int) = M) (ny : (iy.length : Int) = N) (dx : NoDim w l ax) (dy : DimA w l ay a b hy)
    (hN : a * b = N) (hM : M = N ∨ M = 1) (h1 : 1 ≤ N) (hb : N < 100) (ha : 1 ≤ a ∧ a ≤ 3) (hb' : 1 ≤ b ∧ b ≤ 3) :
    Ctr w H₀ 296 [.ref x, .ref y] 8 80 H [] (fun h' r => ∃ li ta tb n, r = .ref li ∧ H.get? li = none ∧ h'.get? li = some (listOf [.int a ta, .int b tb].toArray n)) := by
  replace hM := rng1 hM h1
  intro dp un fr gd s Q E eH st hdp hun hret
  subst eH
  have hvE : Val H₀ s.heap _ := (Val.nil : Val H₀ s.heap [])
  walk_at "m_fill"
  refine wpAny_call ?_
  k_dflt (refine' enterR (binds := [(Str.ofString "u", .ref x), (Str.ofString "v", .ref y)]) G st _ hvE ?k6 ?k7 ?k8 ?k9 ?kB ?_ ?c2 ?c3 ?c4 ?c5; walk_at "m_rest0")
  intro g L h0 tk0 F N X T stg S l1
  refine hideQ (Q := Q) (fun _ _ x => x) ?_
  intro Q9 hQ9
  replace hret := hideR hQ9 hret
  clear hQ9
  show (let e9 := envOf _ _ _ _ _; wpAny _ (Around.deeper _ e9) (execs _ e9) _ _ _)
  intro e9
  (try k_lt l1)
  (try dsimp only)
  (try k_fold)
  k_steps
  all_goals (try dsimp only)
  all_goals exact hret _ _ _ (by walk_at "m_keep") ⟨_, _, _, _, rfl, by walk_at "m_fresh", by walk_at "m_got"⟩
end
local macro_rules | `(tactic| walk_at "m_none2") => `(tactic| skip)
theorem fresh_C5 : True := by
  w_top off
  trivial
section
variable {w : World} {loose : List Str} {mean : ExcName → Option Value} {mg mb : Str → Option Value} {H₀ H : Heap}

/-- two operands of which one is a matrix of N items at least -/
inductive Pair (w : World) (l : List (Addr × Obj)) (ax ay : Value) (n m N a b : Int) : Prop where
  | mm {hx hy : List (Str × Value)} : n = N → m = N → DimA w l ax a b hx → DimA w l ay a b hy → Pair w l ax ay n m N a b
  | mv {hx : List (Str × Value)} : n = N → (m = N ∨ m = 1) → DimA w l ax a b hx → NoDim w l ay → Pair w l ax ay n m N a b
  | vm {hy : List (Str × Value)} : (n = N ∨ n = 1) → m = N → NoDim w l ax → DimA w l ay a b hy → Pair w l ax ay n m N a b

theorem resultdim_ctr (G : Gr w loose mean mg mb H₀) {l : List (Addr × Obj)} {x y : Addr} {kx ky : Str} {ix iy : List Value} {ax ay : Value} {n m N a b : Int} (V : Val H₀ H l)
    (ox : Vec w l x kx ix ax) (oy : Vec w l y ky iy ay) (kx' : kx = sI ∨ kx = sL) (ky' : ky = sI ∨ ky = sL) (nx : (ix.length : Int) = n) (ny : (iy.length : Int) = m) (P : Pair w l ax ay n m N a b)
    (hN : a * b = N) (h1 : 1 ≤ N) (hb : N < 100) (ha : 1 ≤ a ∧ a ≤ 3) (hb' : 1 ≤ b ∧ b ≤ 3) :
    Ctr w H₀ 296 [.ref x, .ref y] 8 80 H [] (fun h' r => ∃ li ta tb n, r = .ref li ∧ H.get? li = none ∧ h'.get? li = some (listOf [.int a ta, .int b tb].toArray n)) := by
  cases P with
  | mm e1 e2 dx dy => subst e1; subst e2; exact resultdim_mm G V ox oy kx' ky' nx ny dx dy hb
  | mv e1 e2 dx dy => subst e1; exact resultdim_mv G V ox oy kx' ky' nx ny dx dy hN e2 h1 hb ha hb'
  | vm e1 e2 dx dy => subst e2; exact resultdim_vm G V ox oy kx' ky' nx ny dx dy hN e1 h1 hb ha hb'

theorem Pair.range {w : World} {l : List (Addr × Obj)} {ax ay : Value} {n m N a b : Int} (P : Pair w l ax ay n m N a b) (h1 : 1 ≤ N) : (1 ≤ n ∧ n ≤ N) ∧ (1 ≤ m ∧ m ≤ N) ∧ (n = N ∨ m = N) ∧ (n = m ∨ n = 1 ∨ m = 1) := by
  cases P with
  | mm e1 e2 _ _ => exact ⟨rng1 (.inl e1) h1, rng1 (.inl e2) h1, .inl e1, .inl (e1.trans e2.symm)⟩
  | mv e1 e2 _ _ => exact ⟨rng1 (.inl e1) h1, rng1 e2 h1, .inl e1, e2.elim (fun e => .inl (e1.trans e.symm)) fun e => .inr (.inr e)⟩
  | vm e1 e2 _ _ => exact ⟨rng1 e1 h1, rng1 (.inl e2) h1, .inr e2, e1.elim (fun e => .inl (e.trans e2.symm)) fun e => .inr (.inl e)⟩

set_option maxHeartbeats 2000000 in
theorem notearray_ctr (G : Gr w loose mean mg mb H₀) {l : List (Addr × Obj)} {x y : Addr} {kx ky : Str} {ix iy : List Value} {ax ay nv : Value} {n m N a b : Int} (V : Val H₀ H l)
    (ox : Vec w l x kx ix ax) (oy : Vec w l y ky iy ay) (kx' : kx = sI ∨ kx = sL) (ky' : ky = sI ∨ ky = sL) (nx : (ix.length : Int) = n) (ny : (iy.length : Int) = m) (P : Pair w l ax ay n m N a b)
    (h1 : 1 ≤ N) (hb : N < 100) :
    Ctr w H₀ 303 [.ref x, .ref y, nv] 8 80 H [] (fun _ r => r = .none) := by
  cases P <;> (
    rename_i e1 e2 dx dy
    intro dp un fr gd s Q E eH st hdp hun hret
    subst eH
    have hvE : Val H₀ s.heap _ := (Val.nil : Val H₀ s.heap [])
    walk_at "m_fill"
    refine wpAny_call ?_
    k_dflt (refine' enterR G st _ hvE ?k6 ?k7 ?k8 ?k9 ?kB ?_ ?c2 ?c3 ?c4 ?c5; walk_at "m_rest0")
    intro g L h0 tk0 F N X T stg S l1
    refine hideQ (Q := Q) (fun _ _ x => x) ?_
    intro Q9 hQ9
    replace hret := hideR hQ9 hret
    clear hQ9
    show (let e9 := envOf _ _ _ _ _; wpAny _ (Around.deeper _ e9) (execs _ e9) _ _ _)
    intro e9
    (try k_lt l1)
    (try dsimp only)
    (try k_fold)
    k_steps
    all_goals (try dsimp only)
    all_goals exact hret _ _ _ (by walk_at "m_keep") rfl)
end
local macro_rules | `(tactic| walk_at "m_none3") => `(tactic| skip)
theorem fresh_C6 : True := by
  w_top off
  trivial
section
variable {w : World} {loose : List Str} {mean : ExcName → Option Value} {mg mb : Str → Option Value} {H₀ H : Heap}

set_option maxHeartbeats 2000000 in
theorem noterec_ctr (G : Gr w loose mean mg mb H₀) {n m : Int} {t u : Tok} {nv : Value} (hn : 1 ≤ n ∧ n < 100) (hm : 1 ≤ m ∧ m < 100) (h : n = m ∨ n = 1 ∨ m = 1) :
    Ctr w H₀ 282 [.int n t, .int m u, nv] 2 20 H [] (fun _ r => r = .none) := by
  obtain ⟨hn1, hn2⟩ := hn
  obtain ⟨hm1, hm2⟩ := hm
  have key : (if m > n then m else n).fmod (if m < n then m else n) = 0 := by
    rcases h with rfl | rfl | rfl
    · simp
    · rcases Int.lt_or_eq_of_le hm1 with h | rfl
      · rw [if_pos h, if_neg (by omega)]; exact Int.fmod_one _
      · simp
    · rcases Int.lt_or_eq_of_le hn1 with h | rfl
      · rw [if_neg (by omega), if_pos h]; exact Int.fmod_one _
      · simp
  intro dp un fr gd s Q E eH st hdp hun hret
  subst eH
  have hvE : Val H₀ s.heap _ := (Val.nil : Val H₀ s.heap [])
  walk_at "m_fill"
  refine wpAny_call ?_
  k_dflt (refine' enterR G st _ hvE ?k6 ?k7 ?k8 ?k9 ?kB ?_ ?c2 ?c3 ?c4 ?c5; walk_at "m_rest0")
  intro g L h0 tk0 F N X T stg S l1
  refine hideQ (Q := Q) (fun _ _ x => x) ?_
  intro Q9 hQ9
  replace hret := hideR hQ9 hret
  clear hQ9
  show (let e9 := envOf _ _ _ _ _; wpAny _ (Around.deeper _ e9) (execs _ e9) _ _ _)
  intro e9
  (try k_lt l1)
  (try dsimp only)
  (try k_fold)
  k_steps
  all_goals first | exact absurd key (by assumption) | skip
  all_goals (try dsimp only)
  exact hret _ _ _ (by walk_at "m_keep") rfl

set_option maxHeartbeats 2000000 in
theorem common_ctr (G : Gr w loose mean mg mb H₀) {l : List (Addr × Obj)} {x y : Addr} {kx ky : Str} {ix iy : List Value} {ax ay nv : Value} {n m N a b : Int} (V : Val H₀ H l)
    (ox : Vec w l x kx ix ax) (oy : Vec w l y ky iy ay) (kx' : kx = sI ∨ kx = sL) (ky' : ky = sI ∨ ky = sL) (nx : (ix.length : Int) = n) (ny : (iy.length : Int) = m) (P : Pair w l ax ay n m N a b)
    (hN : a * b = N) (h1 : 1 ≤ N) (hb : N < 100) (ha : 1 ≤ a ∧ a ≤ 3) (hb' : 1 ≤ b ∧ b ≤ 3) :
    Ctr w H₀ 310 [.ref x, .ref y, nv] 12 120 H [] (fun _ r => ∃ t, r = .int N t) := by
  first | (refine x0_4 (P.range h1) ?_; intro p1 p2 p3 p4) | obtain ⟨p1, p2, p3, p4⟩ := P.range h1
  rcases p3 with rfl | rfl
  all_goals (
    intro dp un fr gd s Q E eH st hdp hun hret
    subst eH
    have hvE : Val H₀ s.heap _ := (Val.nil : Val H₀ s.heap [])
    walk_at "m_fill"
    refine wpAny_call ?_
    k_dflt (refine' enterR G st _ hvE ?k6 ?k7 ?k8 ?k9 ?kB ?_ ?c2 ?c3 ?c4 ?c5; walk_at "m_rest0")
    intro g L h0 tk0 F N X T stg S l1
    refine hideQ (Q := Q) (fun _ _ x => x) ?_
    intro Q9 hQ9
    replace hret := hideR hQ9 hret
    clear hQ9
    show (let e9 := envOf _ _ _ _ _; wpAny _ (Around.deeper _ e9) (execs _ e9) _ _ _)
    intro e9
    (try k_lt l1)
    (try dsimp only)
    (try k_fold)
    k_steps
    (try unfold Stop)
    refine go0 (resultdim_ctr G (V.keep (by walk_at "m_keep")) ox oy kx' ky' nx ny P hN h1 hb ha hb') (by assumption) (by assumption) (by assumption) ⟨by walk_at "m_room", by walk_at "m_room"⟩ ?_
    intro rr1 hh1 tk1 kp1 ps1 F1 N1
    first | (revert ps1; revert rr1; refine y4_2 ?_; intro l3 ta3 tb3 n3 f3 g3) | obtain ⟨l3, ta3, tb3, n3, rfl, f3, g3⟩ := ps1
    k_steps
    (try unfold Stop)
    refine go0 (notearray_ctr G (V.keep (by walk_at "m_keep")) ox oy kx' ky' nx ny P h1 hb) (by assumption) (by assumption) (by assumption) ⟨by walk_at "m_room", by walk_at "m_room"⟩ ?_
    intro rr2 hh2 tk2 kp2 ps2 F2 N2
    subst ps2
    k_steps
    (try unfold Stop)
    refine go0 (noterec_ctr G (by omega) (by omega) p4) (by assumption) (by assumption) (by assumption) ⟨by walk_at "m_room", by walk_at "m_room"⟩ ?_
    intro rr3 hh3 tk3 kp3 ps3 F3 N3
    subst ps3
    k_steps
    (try dsimp only)
    exact hret _ _ _ (by walk_at "m_keep") ⟨_, rfl⟩)
end
local macro_rules | `(tactic| walk_at "binaryOp Mod int int") => `(tactic| (refine m_mod (by omega) ?_; intro k9 t9 b9 c9))
local macro_rules | `(tactic| walk_at "m_it") => `(tactic| (k_here; walk_at "s_si"; k_dflt (refine' m_item ?N ?m ?i ?a ?b ?c ?_; (case N => k_asm); (case m => k_mem); (case i => assumption); (case a => omega); (case b => omega); (case c => omega); k_whole); intro x9 t9 m9))
local macro_rules | `(tactic| walk_at "subscriptTail") => `(tactic| walk_at "m_it")
local macro_rules | `(tactic| walk_at "subscriptTail Name BinOp ref int") => `(tactic| walk_at "m_it")
theorem fresh_C7 : True := by
  w_top off
  trivial
section
variable {w : World} {loose : List Str} {mean : ExcName → Option Value} {mg mb : Str → Option Value} {H₀ H : Heap}

set_option maxHeartbeats 2000000 in
theorem numitems_ctr (G : Gr w loose mean mg mb H₀) {l : List (Addr × Obj)} {x dx li : Addr} {kd : Str} {t1 t2 t3 t4 t5 tk : Tok} {av : Value} (V : Val H₀ H l) (h1 : (x, instObj 257 dx) ∈ l) (h2 : (dx, vdict w t1 t2 t3 t4 t5 kd tk li av) ∈ l) (hk : kd = sI ∨ kd = sL) :
    Ctr w H₀ 352 [.ref x] 2 20 H [] (fun _ r => r = .ref li) := by
  rcases hk with rfl | rfl
  all_goals (
    intro dp un fr gd s Q E eH st hdp hun hret
    subst eH
    have hvE : Val H₀ s.heap _ := V.pick h1 (V.pick h2 Val.nil)
    walk_at "m_fill"
    refine wpAny_call ?_
    k_dflt (refine' enterR G st _ hvE ?k6 ?k7 ?k8 ?k9 ?kB ?_ ?c2 ?c3 ?c4 ?c5; walk_at "m_rest0")
    intro g L h0 tk0 F N X T stg S l1
    refine hideQ (Q := Q) (fun _ _ x => x) ?_
    intro Q9 hQ9
    replace hret := hideR hQ9 hret
    clear hQ9
    show (let e9 := envOf _ _ _ _ _; wpAny _ (Around.deeper _ e9) (execs _ e9) _ _ _)
    intro e9
    (try k_lt l1)
    (try dsimp only)
    (try k_fold)
    k_steps
    (try dsimp only)
    exact hret _ _ _ (by walk_at "m_keep") rfl)

abbrev sPlus : Str := Str.ofString "+"
abbrev sMod : Str := Str.ofString "%%"
/-- what stands in a result of whole numbers -/
def Cell (v : Value) : Prop := v = .none ∨ ∃ i t, v = .int i t

set_option maxHeartbeats 2000000 in
theorem intop_plus (G : Gr w loose mean mg mb H₀) {a b : Int} {t ta tb : Tok} (ha : 0 ≤ a ∧ a ≤ 5) (hb : 0 ≤ b ∧ b ≤ 5) :
    Ctr w H₀ 338 [.str sPlus t, .int a ta, .int b tb] 2 20 H [] (fun _ r => ∃ i t, r = .int i t) := by
  obtain ⟨a1, a2⟩ := ha
  obtain ⟨b1, b2⟩ := hb
  intro dp un fr gd s Q E eH st hdp hun hret
  subst eH
  have hvE : Val H₀ s.heap _ := (Val.nil : Val H₀ s.heap [])
  walk_at "m_fill"
  refine wpAny_call ?_
  k_dflt (refine' enterR G st _ hvE ?k6 ?k7 ?k8 ?k9 ?kB ?_ ?c2 ?c3 ?c4 ?c5; walk_at "m_rest0")
  intro g L h0 tk0 F N X T stg S l1
  refine hideQ (Q := Q) (fun _ _ x => x) ?_
  intro Q9 hQ9
  replace hret := hideR hQ9 hret
  clear hQ9
  show (let e9 := envOf _ _ _ _ _; wpAny _ (Around.deeper _ e9) (execs _ e9) _ _ _)
  intro e9
  (try k_lt l1)
  (try dsimp only)
  (try k_fold)
  k_steps
  all_goals (try dsimp only)
  exact hret _ _ _ (by walk_at "m_keep") ⟨_, _, rfl⟩

set_option maxHeartbeats 2000000 in
theorem intop_mod (G : Gr w loose mean mg mb H₀) {a b : Int} {t ta tb : Tok} (ha : 0 ≤ a ∧ a ≤ 5) (hb : 0 ≤ b ∧ b ≤ 5) :
    Ctr w H₀ 338 [.str sMod t, .int a ta, .int b tb] 2 20 H [] (fun _ r => Cell r) := by
  obtain ⟨a1, a2⟩ := ha
  obtain ⟨b1, b2⟩ := hb
  intro dp un fr gd s Q E eH st hdp hun hret
  subst eH
  have hvE : Val H₀ s.heap _ := (Val.nil : Val H₀ s.heap [])
  walk_at "m_fill"
  refine wpAny_call ?_
  k_dflt (refine' enterR G st _ hvE ?k6 ?k7 ?k8 ?k9 ?kB ?_ ?c2 ?c3 ?c4 ?c5; walk_at "m_rest0")
  intro g L h0 tk0 F N X T stg S l1
  refine hideQ (Q := Q) (fun _ _ x => x) ?_
  intro Q9 hQ9
  replace hret := hideR hQ9 hret
  clear hQ9
  show (let e9 := envOf _ _ _ _ _; wpAny _ (Around.deeper _ e9) (execs _ e9) _ _ _)
  intro e9
  (try k_lt l1)
  (try dsimp only)
  (try k_fold)
  k_steps
  all_goals (try dsimp only)
  all_goals first | exact hret _ _ _ (by walk_at "m_keep") (.inl rfl) | exact hret _ _ _ (by walk_at "m_keep") (.inr ⟨_, _, rfl⟩)
theorem intop_ctr {op : Str} (hop : op = sPlus ∨ op = sMod) (G : Gr w loose mean mg mb H₀) {a b : Int} {t ta tb : Tok} (ha : 0 ≤ a ∧ a ≤ 5) (hb : 0 ≤ b ∧ b ≤ 5) :
    Ctr w H₀ 338 [.str op t, .int a ta, .int b tb] 2 20 H [] (fun _ r => (r = .none ∧ op = sMod) ∨ ∃ i t, r = .int i t) := by
  rcases hop with rfl | rfl
  · exact fun dp un fr gd s Q E e st hd hu hr => intop_plus G ha hb dp un fr gd s Q E e st hd hu fun r h' tk' k p => hr r h' tk' k (.inr p)
  · exact fun dp un fr gd s Q E e st hd hu hr => intop_mod G ha hb dp un fr gd s Q E e st hd hu fun r h' tk' k p => hr r h' tk' k (p.imp_left fun e => ⟨e, rfl⟩)
end
local macro_rules | `(tactic| walk_at "m_none4") => `(tactic| skip)
theorem fresh_C8 : True := by
  w_top off
  trivial
section
variable {w : World} {loose : List Str} {mean : ExcName → Option Value} {mg mb : Str → Option Value} {H₀ H : Heap}
local macro_rules | `(tactic| walk_at "InvEndN") => `(tactic| refine Stop.go ?_)
local macro_rules | `(tactic| walk_at "exec For Name Call cons nil") => `(tactic| refine Stop.go ?_)
local macro_rules | `(tactic| walk_at "pyIter ref") => `(tactic| refine Stop.go ?_)

set_option maxHeartbeats 2000000 in
theorem intresult_ctr {op : Str} (hop : op = sPlus ∨ op = sMod) (G : Gr w loose mean mg mb H₀) {l : List (Addr × Obj)} {lx ly nx' ny : Nat} {ix iy : List Value} {xs ys : List Int} {n m N : Int} {t tn : Tok} {nv : Value} (V : Val H₀ H l)
    (hx : (lx, listOf ix.toArray nx') ∈ l) (hy : (ly, listOf iy.toArray ny) ∈ l) (ax : IntsAre ix xs) (ay : IntsAre iy ys) (rx : ∀ k ∈ xs, 0 ≤ k ∧ k ≤ 5) (ry : ∀ k ∈ ys, 0 ≤ k ∧ k ≤ 5)
    (ex : (ix.length : Int) = n) (ey : (iy.length : Int) = m) (hn : 1 ≤ n ∧ n ≤ N) (hm : 1 ≤ m ∧ m ≤ N) (hb : N < 100) :
    Ctr w H₀ 364 [.str op t, .ref lx, .ref ly, .int N tn, nv] 6 60 H [] (fun h' r => ∃ (li : Addr) (zs : List Value) (c : Nat), r = .ref li ∧ H.get? li = none ∧ h'.get? li = some (listOf zs.toArray c) ∧ (zs.length : Int) = N ∧ ∀ z ∈ zs, Cell z) := by
  have lx9 : (ix.length : Int) < 2 ^ 63 := (ar_l63 rfl ex hn hb).1
  have ly9 : (iy.length : Int) < 2 ^ 63 := (ar_l63 rfl ey hm hb).1
  have lx0 : 0 < (ix.length : Int) := (ar_l63 rfl ex hn hb).2
  have ly0 : 0 < (iy.length : Int) := (ar_l63 rfl ey hm hb).2
  intro dp un fr gd s Q E eH st hdp hun hret
  subst eH
  have hvE : Val H₀ s.heap _ := V.pick hx (V.pick hy Val.nil)
  walk_at "m_fill"
  refine wpAny_call ?_
  k_dflt (refine' enterR (binds := [(Str.ofString "op", .str op t), (Str.ofString "left", .ref lx), (Str.ofString "right", .ref ly), (Str.ofString "n", .int N tn), (Str.ofString "notes", nv)]) G st _ hvE ?k6 ?k7 ?k8 ?k9 ?kB ?_ ?c2 ?c3 ?c4 ?c5; walk_at "m_rest0")
  intro g L h0 tk0 F N X T stg S l1
  refine hideQ (Q := Q) (fun _ _ x => x) ?_
  intro Q9 hQ9
  replace hret := hideR hQ9 hret
  clear hQ9
  show (let e9 := envOf _ _ _ _ _; wpAny _ (Around.deeper _ e9) (execs _ e9) _ _ _)
  intro e9
  (try k_lt l1)
  (try dsimp only)
  (try k_fold)
  k_steps
  unfold Stop
  refine' For_invVF (by assumption) rfl rfl ?_
  k_steps
  unfold Stop
  rename_i l9 h3 l1' h2 _ h1 F1 N1 h0' tkB t9 u9 v9 R9 F2 N2 K2
  refine range_loop (n := N.toNat) [Str.ofString "i", Str.ofString "a", Str.ofString "b", Str.ofString "value"] (fun i nx => ∃ (zs : List Value) (c : Nat), nx = [(l9, listOf zs.toArray c), (lx, listOf ix.toArray nx'), (ly, listOf iy.toArray ny)] ∧ zs.length = i ∧ ∀ z ∈ zs, Cell z) rfl R9 (range_small _ (by omega) (by omega)) (range_size _ (by omega)) F2 N2 ⟨[], 0, rfl, rfl, fun _ h => nomatch h⟩ ?_ ?_
  · intro i ti u nx h tk own hi hoff qz0
    first | (revert qz0; revert nx; refine y2_2 ?_; intro zs c ez hz) | obtain ⟨zs, c, rfl, ez, hz⟩ := qz0
    intro F3 N3
    simp only [List.cons_append, List.nil_append] at N3
    have hz9 : zs.length ≤ 16777216 := ar_i hi hb ez
    k_steps
    rename_i v1 m1 q1 q2 q3 q4 k2 v2 b2 c2 x2 v3 m2 h4 F4 N4
    (try unfold Stop)
    refine go0 (intop_ctr hop G (rx _ q1) (ry _ m2)) (by assumption) (by assumption) (by assumption) ⟨by walk_at "m_room", by walk_at "m_room"⟩ ?_
    intro rr5 hh5 tk5 kp5 ps5 F5 N5
    rcases ps5 with ⟨rfl, rfl⟩ | ⟨i5, t5, rfl⟩
    · k_steps
      rename_i h5 h6 F6 N6
      rw [List.push_toArray] at N6
      unfold Stop
      refine InvEndN.intro F6 N6 ⟨⟨zs ++ [.none], c + 1, rfl, by simp [ez], cells_snoc hz (.inl rfl)⟩, ?_⟩ rfl ?_ ?_
      · walk_at "m_names"
      · walk_at "m_sub"
      · walk_at "m_own"
    · k_steps
      rename_i h5 h6 F6 N6
      rw [List.push_toArray] at N6
      unfold Stop
      refine InvEndN.intro F6 N6 ⟨⟨zs ++ [.int i5 t5], c + 1, rfl, by simp [ez], cells_snoc hz (.inr ⟨_, _, rfl⟩)⟩, ?_⟩ rfl ?_ ?_
      · walk_at "m_names"
      · walk_at "m_sub"
      · walk_at "m_own"
  · intro u nx h tk qz0
    first | (revert qz0; revert nx; refine y2_2 ?_; intro zs c ez hz) | obtain ⟨zs, c, rfl, ez, hz⟩ := qz0
    intro F3 N3
    k_steps
    (try dsimp only)
    exact hret _ _ _ (by walk_at "m_keep") ⟨l9, zs, c, rfl, by walk_at "m_fresh", by walk_at "m_got", ar_len ez (Int.le_trans hn.1 hn.2), hz⟩
end
local macro_rules | `(tactic| walk_at "m_none5") => `(tactic| skip)
local macro_rules | `(tactic| walk_at "m_none6") => `(tactic| skip)
local macro_rules | `(tactic| walk_at "m_none7") => `(tactic| skip)
local macro_rules | `(tactic| walk_at "m_none8") => `(tactic| skip)
theorem fresh_C9 : True := by
  w_top off
  trivial

def AllNe (a : Nat) : List (Addr × Obj) → Prop
  | [] => True
  | p :: r => @Ne Nat p.1 a ∧ AllNe a r
theorem all_ne {g h : Heap} {L a : Addr} (f : h.get? a = none) {news : List (Addr × Obj)} (N : News g L h news) : AllNe a news := by
  induction news with
  | nil => trivial
  | cons p r ih => exact ⟨fun e => (by have := (N p (.head _)).1; rw [e, f] at this; cases this), ih fun q hq => N q (.tail _ hq)⟩
section
variable {w : World} {loose : List Str} {mean : ExcName → Option Value} {mg mb : Str → Option Value} {H₀ : Heap}

set_option maxHeartbeats 2000000 in
theorem vec2_rule (G : Gr w loose mean mg mb H₀) {g : Heap} {L : Addr} {m : Str → Option Value} {news : List (Addr × Obj)} {k : Str} {t : Tok} {li : Addr} {dp un : Nat} {fr : Option (List Env)} {gd : Option (List Code)} {s : Shared} {Q E : Value → Shared → Prop}
    (F0 : Fr g L s.heap m) (N0 : News g L s.heap news) (X0 : (Mine.hd.heap_39 w.params).In g) (stg0 : H₀.StaysIn g) (hdp : dp + 4 < recursionLimit) (hun : un + 40 < cLine)
    (hret : ∀ x dx t1 t2 t3 t4 t5 h' tk', Fr g L h' m → News g L h' ((x, instObj 257 dx) :: (dx, vdict w t1 t2 t3 t4 t5 k t li .none) :: news) → (∀ p ∈ news, p.1 < dx) → dx < x → Q (.ref x) { s with heap := h', toks := tk' }) :
    wpAny (model PG w) (mkA dp un fr gd) (call (.ref 257) [.str k t, .ref li]) Q E s := by
  walk_at "m_fill"
  k_dflt (refine' call_cls F0 X0 N0 ?k4 ?k5 ?k6 ?_; (case k4 => k_is); (case k5 => k_is); (case k6 => k_is); k_whole)
  intro x dx h1 F1 N1 o1 o2
  have hvE : Val H₀ h1 [(x, instObj 257 dx), (dx, dictOf [] 0)] := Val.pick (val_now stg0 N1) (.head _) (Val.pick (val_now stg0 N1) (.tail _ (.head _)) Val.nil)
  have st : H₀.StaysIn h1 := stays_now stg0 F1
  k_dflt (refine' enterR (binds := [(Str.ofString "self", .ref x), (Str.ofString "kind", .str k t), (Str.ofString "items", .ref li), (Str.ofString "attrs", .none)]) G st _ hvE ?k6 ?k7 ?k8 ?k9 ?kB ?_ ?c2 ?c3 ?c4 ?c5; walk_at "m_rest0")
  intro g' L' h0 tk0 F N X T stg S l1
  (try k_lt l1)
  (try dsimp only)
  (try k_fold)
  have o3 := o2
  k_lt2 o3
  k_steps
  dsimp only [InitBack]
  refine ⟨rfl, ?_⟩
  rename_i k1 k2 k3 k4 k5 F2 N2
  have kp := keep_now S hvE F2 N2 [dx] (fun p hp hn => by
    rcases List.mem_cons.mp hp with rfl | hp
    · exact .head _
    · rw [List.mem_singleton.mp hp] at hn; exact absurd (List.mem_singleton.mpr rfl) hn)
  have U := upd_back (pre := [(x, instObj 257 dx)]) F1 N1 kp (N2 _ (.tail _ (.head _))).1 (fun p hp => by rw [List.mem_singleton.mp hp]; exact Nat.ne_of_gt o2) (fun p hp => Nat.ne_of_lt (o1 p hp))
  exact hret x dx _ _ _ _ _ _ _ U.1 U.2 o1 o2

set_option maxHeartbeats 2000000 in
theorem null_rule (G : Gr w loose mean mg mb H₀) {g : Heap} {L : Addr} {m : Str → Option Value} {news : List (Addr × Obj)} {dp un : Nat} {fr : Option (List Env)} {gd : Option (List Code)} {s : Shared} {Q E : Value → Shared → Prop}
    (F0 : Fr g L s.heap m) (N0 : News g L s.heap news) (X0 : (Mine.hd.heap_39 w.params).In g) (stg0 : H₀.StaysIn g) (hdp : dp + 4 < recursionLimit) (hun : un + 40 < cLine)
    (hret : ∀ x dx t1 t2 t3 h' tk', Fr g L h' m → News g L h' ((x, instObj 228 dx) :: (dx, ndict w t1 t2 t3) :: news) → (∀ p ∈ news, p.1 < dx) → dx < x → Q (.ref x) { s with heap := h', toks := tk' }) :
    wpAny (model PG w) (mkA dp un fr gd) (call (.ref 228) []) Q E s := by
  walk_at "m_fill"
  k_dflt (refine' call_cls F0 X0 N0 ?k4 ?k5 ?k6 ?_; (case k4 => k_is); (case k5 => k_is); (case k6 => k_is); k_whole)
  intro x dx h1 F1 N1 o1 o2
  have hvE : Val H₀ h1 [(x, instObj 228 dx), (dx, dictOf [] 0)] := Val.pick (val_now stg0 N1) (.head _) (Val.pick (val_now stg0 N1) (.tail _ (.head _)) Val.nil)
  have st : H₀.StaysIn h1 := stays_now stg0 F1
  k_dflt (refine' enterR (binds := [(Str.ofString "self", .ref x)]) G st _ hvE ?k6 ?k7 ?k8 ?k9 ?kB ?_ ?c2 ?c3 ?c4 ?c5; walk_at "m_rest0")
  intro g' L' h0 tk0 F N X T stg S l1
  (try k_lt l1)
  (try dsimp only)
  (try k_fold)
  have o3 := o2
  k_lt2 o3
  k_steps
  dsimp only [InitBack]
  refine ⟨rfl, ?_⟩
  rename_i k1 k2 F2 N2
  have kp := keep_now S hvE F2 N2 [dx] (fun p hp hn => by
    rcases List.mem_cons.mp hp with rfl | hp
    · exact .head _
    · rw [List.mem_singleton.mp hp] at hn; exact absurd (List.mem_singleton.mpr rfl) hn)
  have U := upd_back (pre := [(x, instObj 228 dx)]) F1 N1 kp (N2 _ (.tail _ (.head _))).1 (fun p hp => by rw [List.mem_singleton.mp hp]; exact Nat.ne_of_gt o2) (fun p hp => Nat.ne_of_lt (o1 p hp))
  exact hret x dx _ _ _ _ _ U.1 U.2 o1 o2
end
local macro_rules | `(tactic| walk_at "call ref") => `(tactic| ((with_reducible show wpAny _ _ (call (Value.ref 257) [Value.str _ _, Value.ref _]) _ _ _); k_dflt ((refine vec2_rule ‹_› ‹_› ‹_› ‹_› ‹_› (by walk_at "m_room") (by walk_at "m_room") ?_); intro x' d' t1' t2' t3' t4' t5' h' tk' F' N' l1 l2; (try k_lt l1); (try k_lt2 l2); walk_at "m_df")))
local macro_rules | `(tactic| walk_at "call ref") => `(tactic| ((with_reducible show wpAny _ _ (call (Value.ref 228) _) _ _ _); k_dflt ((show wpAny _ _ (call (Value.ref 228) []) _ _ _); (refine null_rule ‹_› ‹_› ‹_› ‹_› ‹_› (by walk_at "m_room") (by walk_at "m_room") ?_); intro x' d' t1' t2' t3' h' tk' F' N' l1 l2; (try k_lt l1); (try k_lt2 l2); walk_at "m_df")))
section
variable {w : World} {loose : List Str} {mean : ExcName → Option Value} {mg mb : Str → Option Value} {H₀ H : Heap}

/-- what stands under dimnames in a row of attributes -/
def DnOf (w : World) (l : List (Addr × Obj)) (av : Value) (o : Option Addr) : Prop := (av = .none ∧ o = none) ∨ ∃ d kvs, av = .ref d ∧ Dct w l d kvs ∧ valueAt kvs sDn = o.map Value.ref
def refO : Option Addr → Value
  | none => .none
  | some a => .ref a
/-- the pairs behind dim: the first's dimnames, else the second's -/
def dnRow : Option Addr → Option Addr → List (Str × Value)
  | some a, _ => [(sDn, .ref a)]
  | none, some b => [(sDn, .ref b)]
  | none, none => []
/-- a row of attributes that a call has made, with its dims -/
inductive NewRow (w : World) (H h' : Heap) (d : Addr) (a b : Int) (hs : List (Str × Value)) : Prop where
  | mk (od : Obj) (y dy ly : Addr) (u1 u2 u3 u4 u5 uk ta tb : Tok) (n : Nat) (h1 : ∀ p ∈ ([(d, od), (y, instObj 257 dy), (dy, vdict w u1 u2 u3 u4 u5 sI uk ly .none), (ly, listOf [.int a ta, .int b tb].toArray n)] : List (Addr × Obj)), H.get? p.1 = none ∧ h'.get? p.1 = some p.2)
    (h2 : od.IsDictOf (PySem.strKind PG w) ((sDim, .ref y) :: hs)) (h3 : (d == sysModules) = false) : NewRow w H h' d a b hs

theorem attribute_dn (G : Gr w loose mean mg mb H₀) {l : List (Addr × Obj)} {x : Addr} {kd : Str} {its : List Value} {t : Tok} {av : Value} {o : Option Addr} (V : Val H₀ H l) (hx : Vec w l x kd its av) (ho : DnOf w l av o) :
    Ctr w H₀ 317 [.ref x, .str sDn t] 2 20 H [] (fun _ r => r = refO o) := by
  rcases ho with ⟨rfl, rfl⟩ | ⟨d, kvs, rfl, hD, hv⟩
  · exact attribute_none G V hx
  · have := attribute_dict (t := t) G V hx hD _ hv
    cases o <;> exact this

theorem m_truthy {prog : Program} {K : Type} [DecidableEq K] {knd : KeyKind prog w K} {A : Around} {E : Value → Shared → Prop} {s : Shared} {h₀ : Heap} {L d : Addr} {news : List (Addr × Obj)} {o : Obj} {kv : K × Value} {kvs : List (K × Value)} {Q : Bool → Shared → Prop}
    (N : News h₀ L s.heap news) (hp : (d, o) ∈ news) (hd : o.IsDictOf knd (kv :: kvs)) (lo : (d == sysModules) = false) (hfit : ((kv :: kvs).length : Int) < 2 ^ 63) (h : ∀ tk, Q true { s with toks := tk }) : wpAny (model prog w) A (truthy (.ref d)) Q E s :=
  wpAny_truthy_dict lo (kda_dict N hp hd) hfit (h _)
theorem sub_but {x d : Addr} {ox od : Obj} {news : List (Addr × Obj)} (hx : (x, ox) ∈ news) : ∀ p ∈ ([(x, ox), (d, od)] : List (Addr × Obj)), p.1 ∉ [d] → p ∈ news := fun p hp hn => by
  rcases List.mem_cons.mp hp with rfl | hp
  · exact hx
  · rw [List.mem_singleton.mp hp] at hn; exact absurd (List.mem_singleton.mpr rfl) hn
end
local macro_rules | `(tactic| walk_at "call ref") => `(tactic| ((with_reducible show wpAny _ _ (call (Value.ref 317) _) _ _ _); k_dflt (refine' go0 (attribute_dn ‹_› ?V ?ox ?dn) ‹_› ‹_› ‹_› ?r ?_; (case ox => assumption); (case dn => assumption); walk_at "m_vk"; (case r => walk_at "m_rm"); intro r9 h9 tk9 kp9 ps9 F' N'; (try dsimp only [refO] at ps9); subst ps9; walk_at "m_df")))
local macro_rules | `(tactic| walk_at "truthy ref") => `(tactic| (k_here; (with_reducible show wpAny _ _ (truthy (Value.ref _)) _ _ _); k_dflt (refine m_truthy (knd := PySem.strKind _ _) (by k_asm) (by k_mem) (by k_asm) (by k_asm) (by simp only [List.length_cons, List.length_nil]; omega) ?_); intro tk9; (try dsimp only)))
local macro_rules | `(tactic| walk_at "m_keep1") => `(tactic| (refine' keep_now ?S ?V ?F ?N [_] ?m; (case S => assumption); (case V => assumption); (case F => assumption); (case N => assumption); (case m => exact sub_but (by k_mem))))
local macro_rules | `(tactic| walk_at "m_new") => `(tactic| (repeat (first | exact List.forall_mem_nil _ | refine faC ⟨by walk_at "m_fresh", by walk_at "m_got"⟩ ?_)))
theorem fresh_C11 : True := by
  w_top off
  trivial
section
variable {w : World} {loose : List Str} {mean : ExcName → Option Value} {mg mb : Str → Option Value} {H₀ H : Heap}

set_option maxHeartbeats 2000000 in
theorem shape_ctr (G : Gr w loose mean mg mb H₀) {l : List (Addr × Obj)} {x y rx rdx li : Addr} {kx ky kd : Str} {t1 t2 t3 t4 t5 tk : Tok} {ix iy : List Value} {ax ay : Value} {n m N a b : Int} {ox' oy' : Option Addr} (V : Val H₀ H l)
    (ox : Vec w l x kx ix ax) (oy : Vec w l y ky iy ay) (kx' : kx = sI ∨ kx = sL) (ky' : ky = sI ∨ ky = sL) (nx : (ix.length : Int) = n) (ny : (iy.length : Int) = m) (P : Pair w l ax ay n m N a b)
    (hN : a * b = N) (h1 : 1 ≤ N) (hb : N < 100) (ha : 1 ≤ a ∧ a ≤ 3) (hb' : 1 ≤ b ∧ b ≤ 3) (dx : DnOf w l ax ox') (dy : DnOf w l ay oy')
    (hr : Val H₀ H [(rx, instObj 257 rdx), (rdx, vdict w t1 t2 t3 t4 t5 kd tk li .none)]) (hne : rdx < rx) :
    Ctr w H₀ 324 [.ref x, .ref y, .ref rx] 12 120 H [rdx] (fun h' r => r = .none ∧ ∃ d, h'.get? rdx = some (vdict w t1 t2 t3 t4 t5 kd tk li (.ref d)) ∧ NewRow w H h' d a b (dnRow ox' oy')) := by
  have o3 := hne
  k_lt2 o3
  (
    intro dp un fr gd s Q E eH st hdp hun hret
    subst eH
    have hvE : Val H₀ s.heap _ := hr
    walk_at "m_fill"
    refine wpAny_call ?_
    k_dflt (refine' enterR (binds := [(Str.ofString "u", .ref x), (Str.ofString "v", .ref y), (Str.ofString "result", .ref rx)]) G st _ hvE ?k6 ?k7 ?k8 ?k9 ?kB ?_ ?c2 ?c3 ?c4 ?c5; walk_at "m_rest0")
    intro g L h0 tk0 F N X T stg S l1
    refine hideQ (Q := Q) (fun _ _ x => x) ?_
    intro Q9 hQ9
    replace hret := hideR hQ9 hret
    clear hQ9
    show (let e9 := envOf _ _ _ _ _; wpAny _ (Around.deeper _ e9) (execs _ e9) _ _ _)
    intro e9
    (try k_lt l1)
    (try dsimp only)
    (try k_fold)
    k_steps
    (try unfold Stop)
    refine go0 (resultdim_ctr G (V.keep (by walk_at "m_keep")) ox oy kx' ky' nx ny P hN h1 hb ha hb') (by assumption) (by assumption) (by assumption) ⟨by walk_at "m_room", by walk_at "m_room"⟩ ?_
    intro rr1 hh1 tk1 kp1 ps1 F1 N1
    first | (revert ps1; revert rr1; refine y4_2 ?_; intro l3 ta3 tb3 n3 f3 g3) | obtain ⟨l3, ta3, tb3, n3, rfl, f3, g3⟩ := ps1
    have e3 := all_ne f3 (by assumption)
    simp only [AllNe, and_true] at e3
    have N1' := news_cons (by assumption) f3 g3 N1
    k_steps
    cases oy' <;> (try dsimp only)
    all_goals k_steps
    all_goals cases ox' <;> (try dsimp only)
    all_goals k_steps
    all_goals (
      (try dsimp only)
      refine hret _ _ _ (by walk_at "m_keep1") ⟨rfl, _, by walk_at "m_got", ?_⟩
      refine' ⟨_, _, _, _, _, _, _, _, _, _, _, _, _, ?e1, ?e2, ?e3⟩
      (case e2 => assumption)
      (case e3 => assumption)
      (case e1 => walk_at "m_new")))
end
section
variable {prog : Program} {w : World} {A : Around} {E : Value → Shared → Prop} {s : Shared} {env : Env} {h₀ : Heap} {x : Str} {body : List Stmt} {Q : Flow → Shared → Prop}

/-- a loop over what walks: the iterator's own objects are named in the ledger -/
theorem loop_own {I : Addr} {fp wr : List Addr} {n : Nat} {P : Nat → Value → Prop} {St : Nat → Heap → Prop} {m₀ : Str → Option Value} {news : List (Addr × Obj)} (J : Nat → (Str → Option Value) → List (Addr × Obj) → Prop)
    (W : Walks prog w A I fp wr n P St) (hcov : ∀ i h, St i h → ∀ b ∈ fp, ∃ o, h.get? b = some o) (hfr : ∀ b ∈ fp, h₀.get? b = none) (hLf : env.locals ∉ fp) (hnw : ∀ p ∈ news, p.1 ∉ wr) (hst : St 0 s.heap) (F : Fr h₀ env.locals s.heap m₀) (N : News h₀ env.locals s.heap news) (hj : J 0 m₀ news)
    (turn : ∀ i v m₁ nx h tk (f : Addr → Obj), i < n → P i v → J i m₁ nx → Fr h₀ env.locals h (fun y => if y = x then some v else m₁ y) → News h₀ env.locals h (nx ++ fp.map fun b => (b, f b)) →
      wpAny (model prog w) A (execs body env) (InvPostN h₀ env.locals (fun m' n' => J (i + 1) m' n' ∧ ∀ p ∈ n', p.1 ∉ wr) (fp.map fun b => (b, f b)) (nx.map (·.1)) { s with heap := h, toks := tk } Q) E { s with heap := h, toks := tk })
    (done : ∀ m₁ nx h tk, J n m₁ nx → Fr h₀ env.locals h m₁ → News h₀ env.locals h nx → Q .next { s with heap := h, toks := tk }) :
    LoopAtV prog w A h₀ env x body Q E (.ref I) s := by
  refine i9_11 I fp wr n P St m₀ news J rfl W hLf (fun b hb => hfr b (W.sub b hb)) hnw hst F N hj ?_ ?_
  · intro i v m₁ nx s₁ own qz0
    first | (refine x2_1 (qz0) ?_; intro hh' tk' e9z; clear qz0; subst e9z) | obtain ⟨hh', tk', rfl⟩ := qz0
    intro hin hP hJ hoff hown hat hcv hst' F₁ N₁
    have N₂ : News h₀ env.locals hh' (nx ++ fp.map fun b => (b, (hh'.get? b).getD default)) := fun p hp => by
      rcases List.mem_append.mp hp with hp | hp
      · exact N₁ p (List.mem_append_right _ hp)
      · obtain ⟨b, hb, rfl⟩ := List.mem_map.mp hp
        obtain ⟨o, e⟩ := hcov _ _ hst' b hb
        have h1 := N₁ _ (List.mem_append_left _ (hcv b hb (hfr b hb) o e))
        refine ⟨by show hh'.get? b = some ((hh'.get? b).getD default); rw [e]; rfl, h1.2⟩
    refine wpAny_mono (turn i v m₁ nx hh' tk' (fun b => (hh'.get? b).getD default) hin hP hJ F₁ N₂) (fun f s₂ p => ?_) fun _ _ e => e
    have fin : InvEndN h₀ env.locals (fun m' n' => J (i + 1) m' n' ∧ ∀ p ∈ n', p.1 ∉ wr) (fp.map fun b => (b, (hh'.get? b).getD default)) (nx.map (·.1)) { s with heap := hh', toks := tk' } s₂ → LoopStepU h₀ env.locals wr own (J (i + 1)) { s with heap := hh', toks := tk' } .next s₂ := by
      rintro ⟨h', tk, m', news', n', e, F', N', hn, ho, _, hm, hw⟩
      refine ⟨rfl, h', tk, m', n', e, F', fun p hp => N' p ((List.mem_append.mp hp).elim (fun hp => ho p ?_) (hn p)), hw, hm⟩
      refine List.mem_map.mpr ⟨p.1, hown p hp, ?_⟩
      have := hat p hp
      show (p.1, (hh'.get? p.1).getD default) = p
      have e2 : hh'.get? p.1 = some p.2 := this
      rw [e2]; rfl
    cases f with
    | ret v => exact .ret p
    | brk => exact .brk p
    | next => exact .next (fin p)
    | cont => exact .cont (fin p)
  · rintro h' tk m' news' F' N' _ hJ
    exact done m' news' h' tk hJ F' N'

/-- a loop over a tuple that turns nothing of the ledger -/
theorem tuple_loop {ax : Addr} {ot : Obj} {vs : List Value} {m₀ : Str → Option Value} {news : List (Addr × Obj)} (ns : List Str)
    (hh : A.handled = none) (F : Fr h₀ env.locals s.heap m₀) (N : News h₀ env.locals s.heap ((ax, ot) :: news)) (ht : ot = { cls := .type "tuple", data := .seq vs.toArray })
    (turn : ∀ v (u : Str → Option Value) I ot' it h tk, v ∈ vs → (∀ p ∈ (ax, ot) :: news, p.1 < I) → Fr h₀ env.locals h (fun y => if y = x then some v else if ns.contains y then u y else m₀ y) → News h₀ env.locals h (news ++ [(I, it), (ax, ot')]) →
      wpAny (model prog w) A (execs body env) (InvPostN h₀ env.locals (fun m' nx' => nx' = news ∧ ∀ z, ns.contains z = false → m' z = m₀ z) [(I, it), (ax, ot')] (news.map (·.1)) { s with heap := h, toks := tk } Q) E { s with heap := h, toks := tk })
    (done : ∀ (u : Str → Option Value) h tk, Fr h₀ env.locals h (fun y => if ns.contains y then u y else m₀ y) → News h₀ env.locals h news → Q .next { s with heap := h, toks := tk }) :
    wpAny (model prog w) A (pyIter (.ref ax)) (fun it s₂ => LoopAtV prog w A h₀ env x body Q E it s₂) E s := by
  have D := N _ (.head _)
  have ht : s.heap.IsTuple ax vs.toArray := ⟨_, D.1, by rw [ht], 0, by rw [ht]⟩
  have hlt : ax < s.heap.objs.size := Heap.lt_size D.1
  refine wpAny_pyIter_tuple ht ?_
  have W := Walks.tuple (prog := prog) (w := w) hh s.heap.objs.size ax (Nat.ne_of_lt hlt) vs.toArray
  have off : ∀ p ∈ news, p.1 ∉ [s.heap.objs.size] := fun p hp hI => absurd (Heap.lt_size (N p (.tail _ hp)).1) ((List.mem_singleton.mp hI) ▸ Nat.lt_irrefl _)
  refine loop_own (news := news) (fun i m nx => nx = news ∧ ∀ z, ns.contains z = false → m z = m₀ z) W ?_ ?_ ?_ off ⟨⟨_, Heap.get?_push_size _ rfl, rfl, rfl⟩, ht.at fun o e => Heap.get?_push_of_some _ e⟩ (F.push _) (fun p hp => ⟨Heap.get?_push_of_some _ (N p (.tail _ hp)).1, (N p (.tail _ hp)).2⟩) ⟨rfl, fun _ _ => rfl⟩ ?_ ?_
  · rintro i h ⟨⟨o1, e1, _⟩, ⟨o2, e2, _⟩⟩ b hb
    rcases List.mem_cons.mp hb with rfl | hb
    · exact ⟨_, e1⟩
    · rw [List.mem_singleton.mp hb]; exact ⟨_, e2⟩
  · intro b hb
    rcases List.mem_cons.mp hb with rfl | hb
    · exact next_is_new F
    · rw [List.mem_singleton.mp hb]; exact D.2.2
  · intro hm
    rcases List.mem_cons.mp hm with e | hm
    · exact absurd F.ns.lt (e ▸ Nat.lt_irrefl _)
    · exact D.2.1 (List.mem_singleton.mp hm).symm
  · intro i v m₁ nx h tk f hi hP qz0
    first | (revert qz0; revert nx; refine y0_1 ?_; intro hm) | obtain ⟨rfl, hm⟩ := qz0
    intro F' N'
    rw [ovr_of hm] at F'
    refine wpAny_mono (turn v m₁ s.heap.objs.size (f ax) (f s.heap.objs.size) h tk (List.mem_of_getElem? (by simpa using hP)) (fun p hp => Heap.lt_size (N p hp).1) F' N') (fun fl s₂ p => ?_) fun _ _ e => e
    cases fl with
    | ret v => exact p
    | brk => exact p
    | next => obtain ⟨a1, a2, a3, a4, a5, b1, b2, b3, b4, b5, b6, b7, b8⟩ := p; exact ⟨a1, a2, a3, a4, a5, b1, b2, b3, b4, b5, b6, ⟨b7, b8⟩, b7 ▸ off⟩
    | cont => obtain ⟨a1, a2, a3, a4, a5, b1, b2, b3, b4, b5, b6, b7, b8⟩ := p; exact ⟨a1, a2, a3, a4, a5, b1, b2, b3, b4, b5, b6, ⟨b7, b8⟩, b7 ▸ off⟩
  · intro m₁ nx h tk qz0
    first | (revert qz0; revert nx; refine y0_1 ?_; intro hm) | obtain ⟨rfl, hm⟩ := qz0
    intro F₁ N₁
    refine done m₁ h tk ?_ N₁
    rw [← ovr_of hm]; exact F₁

/-- a loop over a dict's pairs that turns nothing of the ledger -/
theorem items_inv {target : PySem.Expr} {I : Addr} {nm : String} {keep news : List (Addr × Obj)} {m₀ : Str → Option Value} (ns : List Str) (hkeep : SubL keep news) (hoff : ∀ p ∈ news, p.1 < I) :
    ∀ (ys : List ((Tok → Value) × Value))
    (_ : ∀ f v (u : Str → Option Value) T t h tk io, (f, v) ∈ ys → IsTup h T #[f t, v] → Fr h₀ env.locals h (fun y => if ns.contains y then u y else m₀ y) → News h₀ env.locals h ((I, io) :: news) →
      wpAny (model prog w) A (assign target env (.ref T)) (fun _ s₂ => wpAny (model prog w) A (execs body env) (InvPostN h₀ env.locals (fun m' nx' => nx' = news ∧ ∀ z, ns.contains z = false → m' z = m₀ z) [(I, io)] (news.map (·.1)) { s with heap := h, toks := tk } Q) E s₂) E { s with heap := h, toks := tk })
    (_ : ∀ (u : Str → Option Value) h tk, Fr h₀ env.locals h (fun y => if ns.contains y then u y else m₀ y) → News h₀ env.locals h news → Q .next { s with heap := h, toks := tk })
    (m : Str → Option Value), (∀ z, ns.contains z = false → m z = m₀ z) → ItemsRest prog w A E h₀ env target body Q s [(I, nm)] keep (ys.map fun p => Itm.pair p.1 p.2) m news
  | [], _, done, m, hm => fun h tk F N => done m h tk (by rw [← ovr_of hm]; exact F) N
  | (f, v) :: r, turn, done, m, hm => by
    have ih := items_inv (nm := nm) ns hkeep hoff r (fun f v u T t h tk io hmem => turn f v u T t h tk io (.tail _ hmem)) done
    refine ItemsRest.pair fun T t h tk hT F => ?_
    rw [ovr_of hm] at F
    intro io _ N
    refine wpAny_mono (turn f v m T t h tk io (.head _) hT F N) (fun _ s₂ hs => wpAny_mono hs (fun fl s₃ p => ?_) fun _ _ e => e) fun _ _ e => e
    have fin : InvEndN h₀ env.locals (fun m' nx' => nx' = news ∧ ∀ z, ns.contains z = false → m' z = m₀ z) [(I, io)] (news.map (·.1)) { s with heap := h, toks := tk } s₃ → UnrEndW h₀ env.locals { s with heap := h, toks := tk } [(I, io)] (fun m' n' => SubL keep n' ∧ ItemsRest prog w A E h₀ env target body Q s [(I, nm)] keep (r.map fun p => Itm.pair p.1 p.2) m' n') s₃ := by
      rintro ⟨h', tk', m', news', nx, e, F', N', hn, ho, _, rfl, hm'⟩
      refine ⟨h', tk', m', nx, e, F', fun p hp => N' p ((List.mem_append.mp hp).elim (ho p) (hn p)), fun p hp q hq => ?_, hkeep, ih m' hm'⟩
      rw [List.mem_singleton.mp hq]; exact Nat.ne_of_lt (hoff p hp)
    cases fl with
    | ret v => exact p
    | brk => exact p
    | next => exact fin p
    | cont => exact fin p
end
local macro_rules | `(tactic| walk_at "m_valnow") => `(tactic| (refine' val_now ?st ?N; (case N => assumption); (case st => assumption)))
local macro_rules | `(tactic| walk_at "call ref") => `(tactic| ((with_reducible show wpAny _ _ (call (Value.ref 268) _) _ _ _); k_dflt (refine' go0 (length_ctr ‹_› ?V ?ox ?kx ?nx ?fit) ‹_› ‹_› ‹_› ?r ?_; (case V => walk_at "m_valnow"); (case ox => exact ⟨_, _, _, _, _, _, _, _, _, by k_mem, by k_mem, by k_mem⟩); (case kx => first | assumption | exact Or.inl rfl | exact Or.inr rfl); (case nx => assumption); (case fit => omega); walk_at "m_p1")))
local macro_rules | `(tactic| walk_at "m_mem") => `(tactic| first | exact List.Mem.head _ | (refine' List.Mem.tail _ ?_; walk_at "m_mem") | ((show _ ∈ _); ktr_member) | ((show _ ∈ _); refine List.mem_append.mpr (Or.inl ?_); walk_at "m_mem") | ((show _ ∈ _); refine List.mem_append.mpr (Or.inr ?_); walk_at "m_mem"))
local macro_rules | `(tactic| k_mem) => `(tactic| walk_at "m_mem")
local macro_rules | `(tactic| walk_at "pyIter ref") => `(tactic| ((with_reducible show wpAny _ _ (pyIter (Value.ref _)) (fun it s₂ => LoopAtV _ _ _ _ _ _ _ _ _ it s₂) _ _); refine Stop.go ?_))
local macro_rules | `(tactic| walk_at "ite") => `(tactic| (k_openite; first | (refine ite_neg (ne_true_of_eq_false ‹_›) ?_) | (refine ite_pos ‹_› ?_)))
theorem fresh_C12 : True := by
  w_top off
  trivial
section
variable {w : World} {loose : List Str} {mean : ExcName → Option Value} {mg mb : Str → Option Value} {H₀ H : Heap}
local macro_rules | `(tactic| walk_at "exec For Tuple Call cons nil") => `(tactic| refine Stop.go ?_)
local macro_rules | `(tactic| walk_at "exec For Name Tuple cons nil") => `(tactic| refine Stop.go ?_)

/-- the rows of attributes that the law makes -/
def RowF (w : World) (l : List (Addr × Obj)) (az : Value) : Prop := az = .none ∨ ∃ d kvs y z, az = .ref d ∧ Dct w l d kvs ∧ (kvs = [(sDim, .ref y)] ∨ kvs = [(sDim, .ref y), (sDn, .ref z)] ∨ kvs = [(sNm, .ref y)])
theorem Val.keep1 {H₀ H H' : Heap} {l : List (Addr × Obj)} {d : Addr} (h : Val H₀ H l) (k : KeepBut [d] H H') (hl : ∀ p ∈ l, p.1 ≠ d) : Val H₀ H' l := fun p hp => ⟨k _ _ (fun e => hl p hp (List.mem_singleton.mp e)) (h p hp).1, (h p hp).2⟩
theorem news_in {g h : Heap} {L : Addr} {l : List (Addr × Obj)} (N : News g L h l) {p : Addr × Obj} (hp : p ∈ l) : News g L h (p :: l) := fun q hq => (List.mem_cons.mp hq).elim (fun e => e ▸ N p hp) (N q)
theorem mem_skip {α : Type} {p : α} {A B C : List α} (hp : p ∈ A) : p ∈ B ++ (A ++ C) := List.mem_append_right _ (List.mem_append_left _ hp)
theorem contains_tail {a z : Str} {l : List Str} (h : (a :: l).contains z = false) : l.contains z = false := by rw [List.contains_cons, Bool.or_eq_false_iff] at h; exact h.2
theorem sub_butN {x d : Addr} {ox od : Obj} {rest news : List (Addr × Obj)} (hx : (x, ox) ∈ news) (hl : ∀ p ∈ rest, p ∈ news) : ∀ p ∈ (x, ox) :: (d, od) :: rest, p.1 ∉ [d] → p ∈ news := fun p hp hn => by
  rcases List.mem_cons.mp hp with rfl | hp
  · exact hx
  · rcases List.mem_cons.mp hp with rfl | hp
    · exact absurd (List.mem_singleton.mpr rfl) hn
    · exact hl p hp

local macro_rules | `(tactic| walk_at "m_subS") => `(tactic| first | exact fun p hp => mem_skip (B := [_, _, _]) hp | exact fun p hp => mem_skip (B := [_, _, _, _]) hp | exact fun p hp => mem_skip (B := [_, _, _, _, _]) hp | exact fun p hp => mem_skip (B := [_]) hp | exact fun p hp => mem_skip (B := [_, _]) hp)
local macro_rules | `(tactic| walk_at "m_ownS") => `(tactic| ((try simp only [List.nil_append, List.cons_append]); intro p hp; (repeat (first | (with_reducible exact hp) | (with_reducible exact List.mem_append_right _ hp) | apply List.mem_cons_of_mem))))
local macro_rules | `(tactic| walk_at "compareOp NotIn str ref") => `(tactic| ((fail_if_success (fail_if_success (with_reducible rename (_ = sDim ∨ _ = sDn ∨ _ = sNm) => zz9))); refine Stop.go ?_))
local macro_rules | `(tactic| walk_at "InvEndN") => `(tactic| refine Stop.go ?_)
set_option maxHeartbeats 600000 in
theorem rattrs_ctr (G : Gr w loose mean mg mb H₀) {l : List (Addr × Obj)} {x y rx rdx li nl : Addr} {kx ky kd : Str} {t1 t2 t3 t4 t5 tk : Tok} {ix iy zs : List Value} {ax ay : Value} {n m N a b : Int} {ox' oy' : Option Addr} (V : Val H₀ H l)
    (ox : Vec w l x kx ix ax) (oy : Vec w l y ky iy ay) (kx' : kx = sI ∨ kx = sL) (ky' : ky = sI ∨ ky = sL) (nx : (ix.length : Int) = n) (ny : (iy.length : Int) = m) (P : Pair w l ax ay n m N a b)
    (hN : a * b = N) (h1 : 1 ≤ N) (hb : N < 100) (ha : 1 ≤ a ∧ a ≤ 3) (hb' : 1 ≤ b ∧ b ≤ 3) (dx : DnOf w l ax ox') (dy : DnOf w l ay oy') (rfx : RowF w l ax) (rfy : RowF w l ay)
    (hr : Val H₀ H [(rx, instObj 257 rdx), (rdx, vdict w t1 t2 t3 t4 t5 kd tk li .none), (li, listOf zs.toArray nl)]) (hne : rdx < rx) (hli : li < rdx) (hl : ∀ p ∈ l, p.1 ≠ rdx) (kd' : kd = sI ∨ kd = sL) (nz : (zs.length : Int) = N) :
    Ctr w H₀ 331 [.ref x, .ref y, .ref rx] 16 160 H [rdx] (fun h' r => r = .none ∧ ∃ d, h'.get? rdx = some (vdict w t1 t2 t3 t4 t5 kd tk li (.ref d)) ∧ NewRow w H h' d a b (dnRow ox' oy')) := by
  have o3 := hne
  k_lt2 o3
  have o4 := hli
  k_lt2 o4
  intro dp un fr gd s Q E eH st hdp hun hret
  subst eH
  have hvE : Val H₀ s.heap _ := Val.pick hr (.head _) (Val.pick hr (.tail _ (.head _)) (Val.pick hr (.tail _ (.tail _ (.head _))) V))
  walk_at "m_fill"
  refine wpAny_call ?_
  k_dflt (refine' enterR (binds := [(Str.ofString "u", .ref x), (Str.ofString "v", .ref y), (Str.ofString "result", .ref rx)]) G st _ hvE ?k6 ?k7 ?k8 ?k9 ?kB ?_ ?c2 ?c3 ?c4 ?c5; walk_at "m_rest0")
  intro g L h0 tk0 F N X T stg S l1
  refine hideQ (Q := Q) (fun _ _ x => x) ?_
  intro Q9 hQ9
  replace hret := hideR hQ9 hret
  clear hQ9
  show (let e9 := envOf _ _ _ _ _; wpAny _ (Around.deeper _ e9) (execs _ e9) _ _ _)
  intro e9
  (try k_lt l1)
  (try dsimp only)
  (try k_fold)
  k_steps
  refine shape_ctr G (V.keep (by walk_at "m_keep")) ox oy kx' ky' nx ny P hN h1 hb ha hb' dx dy ((Val.pick hr (.head _) (Val.pick hr (.tail _ (.head _)) Val.nil)).keep (by walk_at "m_keep")) hne _ _ _ _ _ _ _ rfl (stays_now (by assumption) (by assumption)) (by walk_at "m_room") (by walk_at "m_room") ?_
  intro rr1 hh1 tk1 kp1 ps1
  first | (revert ps1; revert rr1; refine y0_1 ?_; intro qq1) | obtain ⟨rfl, qq1⟩ := ps1
  first | (refine x1_2 (qq1) ?_; intro d hd qr1; clear qq1) | obtain ⟨d, hd, qr1⟩ := qq1
  obtain ⟨od, yv, dy', ly, u1, u2, u3, u4, u5, uk, ta, tb, nn, hnew, hod, lo⟩ := qr1
  rename News _ _ _ _ => Nw
  rename Fr _ _ _ _ => Fw
  have kp0 := keep_now S hvE Fw Nw [] (fun p hp _ => hp)
  have U := upd_back (pre := [(rx, instObj 257 rdx)]) Fw Nw kp1 hd (fun p hp => by rw [List.mem_singleton.mp hp]; exact Nat.ne_of_gt hne) (faC (Nat.ne_of_lt hli) (hl))
  have N1 := news_app Fw hnew U.2
  have F1 := U.1
  clear Nw Fw
  simp only [List.cons_append, List.nil_append] at N1
  k_steps
  unfold Stop
  refine' For_invVF F1 rfl rfl ?_
  k_steps
  unfold Stop
  rename_i D9 h9 F2 N2 l9
  refine tuple_loop [Str.ofString "operand", Str.ofString "name", Str.ofString "value"] rfl F2 N2 rfl ?_ ?_
  · intro v u I9 ot9 it9 h tk hv hI F3 N3
    have opd : ∃ z kz iz az nz, v = .ref z ∧ Vec w l z kz iz az ∧ (kz = sI ∨ kz = sL) ∧ ((iz.length : Int) = nz) ∧ nz < 100 ∧ RowF w l az := by
      first | (refine x0_4 (P.range h1) ?_; intro q1 q2 q3 q4) | obtain ⟨q1, q2, q3, q4⟩ := P.range h1
      rcases List.mem_cons.mp hv with rfl | hv
      · exact ⟨y, ky, iy, ay, m, rfl, oy, ky', ny, by omega, rfy⟩
      · rw [List.mem_singleton.mp hv]; exact ⟨x, kx, ix, ax, n, rfl, ox, kx', nx, by omega, rfx⟩
    clear ox oy nx ny P dx dy rfx rfy hv kx' ky'
    first | (refine x5_6 (opd) ?_; intro z kz iz az nz e9z oz kz' hnz hz100 rfz; clear opd; subst e9z) | obtain ⟨z, kz, iz, az, nz, rfl, oz, kz', hnz, hz100, rfz⟩ := opd
    obtain ⟨dz0, c1, c2, c3, c4, c5, c6, lz0, c7, hz1, hz2, hz3⟩ := id oz
    simp only [List.cons_append, List.nil_append] at N3
    have N4 := news_in N3 (p := (lz0, listOf iz.toArray c7)) (by repeat (first | (with_reducible exact List.mem_append_left _ hz3) | apply List.mem_cons_of_mem))
    have N5 := news_in N4 (p := (dz0, vdict w c1 c2 c3 c4 c5 kz c6 lz0 az)) (by repeat (first | (with_reducible exact List.mem_append_left _ hz2) | apply List.mem_cons_of_mem))
    have N6 := news_in N5 (p := (z, instObj 257 dz0)) (by repeat (first | (with_reducible exact List.mem_append_left _ hz1) | apply List.mem_cons_of_mem))
    clear N3 N4 N5
    rcases rfz with rfl | ⟨ez, kvz, vz, wz, rfl, hDz, hkz⟩
    · k_steps
      unfold Stop
      refine InvEndN.intro (by assumption) (by assumption) ⟨rfl, by walk_at "m_names"⟩ rfl ?_ ?_
      · walk_at "m_subS"
      · walk_at "m_ownS"
    · obtain ⟨odz, hdz1, hdz2, loz⟩ := hDz
      have N7 := news_in N6 (p := (ez, odz)) (by repeat (first | (with_reducible exact List.mem_append_left _ hdz1) | apply List.mem_cons_of_mem))
      clear N6
      k_steps
      · unfold Stop
        refine' For_turns (by assumption) ?_
        k_steps
        rename News _ _ _ _ => N8
        refine kta_items (knd := PySem.strKind _ _) (enc := PyData.str) (kvs := kvz) (xs := (kvz.map fun p => ((fun t => Value.str p.1 t), p.2)).map fun p => Itm.pair p.1 p.2) rfl (by assumption) N8 ⟨_, News.get N8 (.head _), rfl, rfl⟩ (List.mem_cons_of_mem _ List.mem_cons_self) hdz2 (fun _ _ h => Value.isStrOf_shape h) (by rw [List.map_map]; rfl) ?_
        intro i9 l8
        refine items_inv [Str.ofString "name", Str.ofString "value"] ?_ l8 _ ?_ ?_ _ (fun _ _ => rfl)
        · exact ⟨List.mem_cons_of_mem _ List.mem_cons_self, trivial⟩
        · intro f v u9 T9 t9 h9 tk9 io9 hm9 hT9 F9 N9
          have hk9 : ∃ k, f = (fun t => Value.str k t) ∧ (k = sDim ∨ k = sDn ∨ k = sNm) := by
            first | (refine x1_2 (List.mem_map.mp hm9) ?_; intro p hp e) | obtain ⟨p, hp, e⟩ := List.mem_map.mp hm9
            refine ⟨p.1, (congrArg Prod.fst e).symm, ?_⟩
            rcases hkz with rfl | rfl | rfl <;> simp only [List.mem_cons, List.not_mem_nil, or_false] at hp
            · subst hp; exact .inl rfl
            · rcases hp with rfl | rfl
              · exact .inl rfl
              · exact .inr (.inl rfl)
            · subst hp; exact .inr (.inr rfl)
          clear hm9 N8 l8
          obtain ⟨k, ef9, hk⟩ := hk9
          subst ef9
          k_steps
          unfold Stop
          rcases hk with hk | hk | hk <;> subst hk
          all_goals k_steps
          all_goals unfold Stop
          all_goals refine InvEndN.intro (by assumption) (by assumption) ⟨rfl, by walk_at "m_names"⟩ rfl (fun p hp => by repeat (first | (with_reducible exact hp) | apply List.mem_cons_of_mem)) (fun p hp => by rw [List.mem_singleton.mp hp]; repeat (first | (with_reducible exact List.mem_cons_self) | apply List.mem_cons_of_mem))
        · intro u9 h9 tk9 F9 N9
          k_steps
          unfold Stop
          refine InvEndN.intro (by assumption) (by assumption) ⟨rfl, fun z hz => (if_neg (not_contains (contains_tail hz))).trans ?_⟩ rfl ?_ ?_
          · revert z hz; walk_at "m_names"
          · walk_at "m_subS"
          · walk_at "m_ownS"
      · unfold Stop
        refine InvEndN.intro (by assumption) (by assumption) ⟨rfl, by walk_at "m_names"⟩ rfl ?_ ?_
        · walk_at "m_subS"
        · walk_at "m_ownS"
  · intro u h tk F3 N3
    k_steps
    (try dsimp only)
    exact hret _ _ _ (keep_now S hvE F3 N3 [rdx] (sub_butN (by k_mem) (by intro p hp; k_ownIn))) ⟨rfl, d, by walk_at "m_got", od, yv, dy', ly, u1, u2, u3, u4, u5, uk, ta, tb, nn, fun p hp => ⟨fresh_kp kp0 (hnew p hp).1, (N3 p (List.mem_append_left _ hp)).1⟩, hod, lo⟩
end
local macro_rules | `(tactic| walk_at "m_none9") => `(tactic| skip)
local macro_rules | `(tactic| walk_at "m_none10") => `(tactic| skip)
local macro_rules | `(tactic| walk_at "m_none11") => `(tactic| skip)
local macro_rules | `(tactic| walk_at "m_none12") => `(tactic| skip)
local macro_rules | `(tactic| walk_at "m_none13") => `(tactic| skip)
local macro_rules | `(tactic| walk_at "m_none14") => `(tactic| skip)
local macro_rules | `(tactic| walk_at "m_none15") => `(tactic| skip)
theorem fresh_C13 : True := by
  w_top off
  trivial
section
variable {w : World} {loose : List Str} {mean : ExcName → Option Value} {mg mb : Str → Option Value} {H₀ H : Heap}

/-- a result that a call has made: a Vector with a row of attributes of its own -/
inductive ResOf (w : World) (H h' : Heap) (k : Str) (N a b : Int) (hs : List (Str × Value)) (r : Value) : Prop where
  | mk (z dz li d : Addr) (t1 t2 t3 t4 t5 tk : Tok) (zs : List Value) (nl : Nat) (h1 : r = .ref z) (h2 : (zs.length : Int) = N) (h3 : ∀ p ∈ ([(z, instObj 257 dz), (dz, vdict w t1 t2 t3 t4 t5 k tk li (.ref d)), (li, listOf zs.toArray nl)] : List (Addr × Obj)), H.get? p.1 = none ∧ h'.get? p.1 = some p.2) (h4 : ∀ z ∈ zs, Cell z) (h5 : NewRow w H h' d a b hs) : ResOf w H h' k N a b hs r

set_option maxHeartbeats 600000 in
theorem arith_ctr {op : Str} (hop : op = sPlus ∨ op = sMod) (G : Gr w loose mean mg mb H₀) {l : List (Addr × Obj)} {x y : Addr} {kx ky : Str} {ix iy : List Value} {ax ay nv : Value} {n m N a b : Int} {ox' oy' : Option Addr} {xs ys : List Int} {t : Tok} (V : Val H₀ H l)
    (ox : Vec w l x kx ix ax) (oy : Vec w l y ky iy ay) (kx' : kx = sI ∨ kx = sL) (ky' : ky = sI ∨ ky = sL) (nx : (ix.length : Int) = n) (ny : (iy.length : Int) = m) (P : Pair w l ax ay n m N a b)
    (hN : a * b = N) (h1 : 1 ≤ N) (hb : N < 100) (ha : 1 ≤ a ∧ a ≤ 3) (hb' : 1 ≤ b ∧ b ≤ 3) (dx : DnOf w l ax ox') (dy : DnOf w l ay oy') (rfx : RowF w l ax) (rfy : RowF w l ay)
    (isx : IntsAre ix xs) (isy : IntsAre iy ys) (rx : ∀ k ∈ xs, 0 ≤ k ∧ k ≤ 5) (ry : ∀ k ∈ ys, 0 ≤ k ∧ k ≤ 5) :
    Ctr w H₀ 376 [.str op t, .ref x, .ref y, nv] 20 200 H [] (fun h' r => ResOf w H h' sI N a b (dnRow ox' oy') r) := by
  first | (refine x0_4 (P.range h1) ?_; intro q1 q2 q3 q4) | obtain ⟨q1, q2, q3, q4⟩ := P.range h1
  obtain ⟨dx0, a1, a2, a3, a4, a5, a6, lx0, a7, hx1, hx2, hx3⟩ := id ox
  obtain ⟨dy0, b1, b2, b3, b4, b5, b6, ly0, b7, hy1, hy2, hy3⟩ := id oy
  have kop : ([Str.ofString "/", Str.ofString "^"].any fun x => x == op) = false := by rcases hop with rfl | rfl <;> decide
  have nkx : (kx == Str.ofString "double") = false := by rcases kx' with rfl | rfl <;> decide
  have nky : (ky == Str.ofString "double") = false := by rcases ky' with rfl | rfl <;> decide
  (
    intro dp un fr gd s Q E eH st hdp hun hret
    subst eH
    have hvE : Val H₀ s.heap _ := V.pick hx1 (V.pick hx2 (V.pick hy1 (V.pick hy2 Val.nil)))
    walk_at "m_fill"
    refine wpAny_call ?_
    k_dflt (refine' enterR (binds := [(Str.ofString "op", .str op t), (Str.ofString "u", .ref x), (Str.ofString "v", .ref y), (Str.ofString "notes", nv)]) G st _ hvE ?k6 ?k7 ?k8 ?k9 ?kB ?_ ?c2 ?c3 ?c4 ?c5; walk_at "m_rest0")
    intro g L h0 tk0 F N X T stg S l1
    refine hideQ (Q := Q) (fun _ _ x => x) ?_
    intro Q9 hQ9
    replace hret := hideR hQ9 hret
    clear hQ9
    show (let e9 := envOf _ _ _ _ _; wpAny _ (Around.deeper _ e9) (execs _ e9) _ _ _)
    intro e9
    (try k_lt l1)
    (try dsimp only)
    (try k_fold)
    k_steps
    (try unfold Stop)
    refine go0 (numitems_ctr G (V.keep (by walk_at "m_keep")) hx1 hx2 kx') (by assumption) (by assumption) (by assumption) ⟨by walk_at "m_room", by walk_at "m_room"⟩ ?_
    intro rr1 hh1 tk1 kp1 ps1 F1 N1
    subst ps1
    k_steps
    (try unfold Stop)
    refine go0 (numitems_ctr G (V.keep (by walk_at "m_keep")) hy1 hy2 ky') (by assumption) (by assumption) (by assumption) ⟨by walk_at "m_room", by walk_at "m_room"⟩ ?_
    intro rr2 hh2 tk2 kp2 ps2 F2 N2
    subst ps2
    k_steps
    (try unfold Stop)
    refine go0 (common_ctr G (V.keep (by walk_at "m_keep")) ox oy kx' ky' nx ny P hN h1 hb ha hb') (by assumption) (by assumption) (by assumption) ⟨by walk_at "m_room", by walk_at "m_room"⟩ ?_
    intro rr3 hh3 tk3 kp3 ps3 F3 N3
    first | (revert ps3; revert rr3; refine y1_0 ?_; intro tn) | obtain ⟨tn, rfl⟩ := ps3
    k_steps
    (try unfold Stop)
    refine go0 (intresult_ctr hop G (V.keep (by walk_at "m_keep")) hx3 hy3 isx isy rx ry nx ny (by omega) (by omega) hb) (by assumption) (by assumption) (by assumption) ⟨by walk_at "m_room", by walk_at "m_room"⟩ ?_
    intro rr4 hh4 tk4 kp4 ps4 F4 N4
    first | (revert ps4; revert rr4; refine y3_4 ?_; intro li zs c4 f4 g4 hz4 hc4) | obtain ⟨li, zs, c4, rfl, f4, g4, hz4, hc4⟩ := ps4
    have fl : s.heap.get? li = none := by walk_at "m_fresh"
    have N4' := news_cons (by assumption) f4 g4 N4
    clear N4
    k_steps
    rename_i rx' rdx t1' t2' t3' t4' t5' h1' tk' l1' l2' h2' Fw Nw
    have kp0 : KeepBut [] s.heap _ := keep_now S hvE Fw Nw [] (by intro p hp _; k_ownIn)
    have fx : s.heap.get? rx' = none := by walk_at "m_fresh"
    have fz : s.heap.get? rdx = none := by walk_at "m_fresh"
    refine rattrs_ctr G (V.keep kp0) ox oy kx' ky' nx ny P hN h1 hb ha hb' dx dy rfx rfy (Val.pick (val_now stg Nw) (.head _) (Val.pick (val_now stg Nw) (.tail _ (.head _)) (Val.pick (val_now stg Nw) (.tail _ (.tail _ (.head _))) Val.nil))) l2' l1'.1 (fun p hp e => by have := (V p hp).1; rw [e, fz] at this; cases this) (.inl rfl) hz4 _ _ _ _ _ _ _ rfl (stays_now stg Fw) (by walk_at "m_room") (by walk_at "m_room") ?_
    intro rr5 hh5 tk5 kp5 ps5
    first | (revert ps5; revert rr5; refine y0_1 ?_; intro qq5) | obtain ⟨rfl, qq5⟩ := ps5
    first | (refine x1_2 (qq5) ?_; intro d hd qr5; clear qq5) | obtain ⟨d, hd, qr5⟩ := qq5
    obtain ⟨od, yv, dy', ly, u1, u2, u3, u4, u5, uk, ta, tb, nn, hnew, hod, lo⟩ := qr5
    have U := upd_back (pre := [(rx', instObj 257 rdx)]) Fw Nw kp5 hd (fun p hp => by rw [List.mem_singleton.mp hp]; exact Nat.ne_of_gt l2') (by walk_at "m_nes")
    have N5 := news_app Fw hnew U.2
    have F5 := U.1
    clear Nw Fw U
    simp only [List.cons_append, List.nil_append] at N5
    k_steps
    (try dsimp only)
    rename News _ _ _ _ => N6
    exact hret _ _ _ (by walk_at "m_keep") ⟨rx', rdx, li, d, t1', t2', t3', t4', t5', _, zs, c4, rfl, hz4, faC (⟨fx, by walk_at "m_got"⟩) (faC (⟨fz, by walk_at "m_got"⟩) (faC (⟨fl, by walk_at "m_got"⟩) (List.forall_mem_nil _))), hc4,
      od, yv, dy', ly, u1, u2, u3, u4, u5, uk, ta, tb, nn, fun p hp => ⟨fresh_kp kp0 (hnew p hp).1, (N6 p (List.mem_append_left _ hp)).1⟩, hod, lo⟩)
end
section
open LCg
variable {prog : Program} {w : World} {A : Around} {s : Shared} {h₀ : Heap} {L : Addr} {m : Str → Option Value} {env : Env}

/-- the turns of a list comprehension: Led what the values and the ledger are ahead of turn i -/
theorem comp_inv {elt : PySem.Expr} {x : Str} {scope : Scope} {cl : List (Str × Addr)} {S : List (Addr × Obj) → Prop} {P : Nat → Value → Prop} {Fin : List Value → List (Addr × Obj) → Prop} (n : Nat) (Led : Nat → List Value → List (Addr × Obj) → Prop)
    (turn : ∀ i ys nx v I oI C oC D m₂ h tk (E' : Value → Shared → Prop), i < n → P i v → Led i ys nx → NsObj oC m₂ → m₂ x = some v → Fr h₀ L h m → News h₀ L h ((I, oI) :: (C, oC) :: (D, lst ys) :: nx) → Off3 I C D nx → ((@Ne Nat I C) ∧ (@Ne Nat I D) ∧ (@Ne Nat C D)) →
      wpAny (model prog w) A (eval elt (compEnvC scope cl C env)) (CompEnd h₀ L m { s with heap := h, toks := tk } I oI C oC D (lst ys) S (fun y nx' => Led (i + 1) (ys ++ [y]) nx')) E' { s with heap := h, toks := tk })
    (done : ∀ ys nx, Led n ys nx → Fin ys nx) :
    ∀ k i ys nx, i + k = n → Led i ys nx → CompRest prog w A h₀ L m env elt x scope cl s S P Fin k i ys nx
  | 0, i, ys, nx, e, h => CompRest.zero (done ys nx (by rw [← e]; exact h))
  | k + 1, i, ys, nx, e, h => CompRest.succ fun v I oI C oC D m₂ h' tk E' hP hC hx F N off ne =>
      wpAny_mono (turn i ys nx v I oI C oC D m₂ h' tk E' (by omega) hP h hC hx F N off ne) (fun _ _ q => by
        obtain ⟨h₁, tk₁, nx', e₁, F₁, N₁, off₁, hS, hr⟩ := q
        exact ⟨h₁, tk₁, nx', e₁, F₁, N₁, off₁, hS, comp_inv n Led turn done k (i + 1) _ nx' (by omega) hr⟩) fun _ _ q => q

/-- where a turn that turns nothing of the ledger ends -/
theorem comp_end {I C D : Addr} {oI oC oD : Obj} {S : List (Addr × Obj) → Prop} {rest : Value → List (Addr × Obj) → Prop} {y : Value} {h' : Heap} {tk : Nat} {nx all : List (Addr × Obj)} (F : Fr h₀ L h' m) (N : News h₀ L h' all)
    (sub : ∀ p ∈ (I, oI) :: (C, oC) :: (D, oD) :: nx, p ∈ all) (off : Off3 I C D nx) (hS : S nx) (r : rest y nx) : CompEnd h₀ L m s I oI C oC D oD S rest y { s with heap := h', toks := tk } :=
  ⟨h', tk, nx, rfl, F, fun p hp => N p (sub p hp), off, hS, r⟩
end
theorem off1_ne {D : Addr} : ∀ {nx : List (Addr × Obj)}, LCg.Off1 D nx → ∀ p ∈ nx, p.1 ≠ D
  | [], _, _, h => nomatch h
  | _ :: _, o, p, h => (List.mem_cons.mp h).elim (fun e => e ▸ o.1) (off1_ne o.2 p)
theorem fresh_off {H g h : Heap} {L D : Addr} {oD : Obj} {ex nx : List (Addr × Obj)} (S : GSub H g (ex.map (·.1))) (N : News g L h ((D, oD) :: nx)) (off : LCg.Off1 D nx) (hs : ∀ p ∈ ex, p ∈ nx) : H.get? D = none :=
  fresh_now S N (.head _) fun hm => by
    first | (refine x1_2 (List.mem_map.mp hm) ?_; intro p hp e) | obtain ⟨p, hp, e⟩ := List.mem_map.mp hm
    exact off1_ne off p (hs p hp) e
/-- a truth: 0 or 1 -/
def Bit (v : Value) : Prop := ∃ i t, v = .int i t ∧ 0 ≤ i ∧ i ≤ 1
theorem Bit.cell {v : Value} (h : Bit v) : Cell v := let ⟨i, t, e, _⟩ := h; .inr ⟨i, t, e⟩
theorem bits_at {zs : List Value} (h : ∀ z ∈ zs, Bit z) {j : Nat} (hj : j < zs.length) : ∃ i t, zs[j]? = some (.int i t) ∧ 0 ≤ i ∧ i ≤ 1 := by
  first | (refine x2_2 (h _ (List.getElem_mem hj)) ?_; intro i t e r) | obtain ⟨i, t, e, r⟩ := h _ (List.getElem_mem hj)
  exact ⟨i, t, by rw [List.getElem?_eq_getElem hj, e], r⟩
section
variable {prog : Program} {w : World} {A : Around} {E : Value → Shared → Prop} {s : Shared} {h₀ : Heap} {L : Addr} {news : List (Addr × Obj)}
theorem m_bit {value slice : PySem.Expr} {l : Addr} {its : List Value} {n : Nat} {k : Int} {u : Tok} {Q : Value → Shared → Prop}
    (N : News h₀ L s.heap news) (hm : (l, listOf its.toArray n) ∈ news) (hi : ∀ z ∈ its, Bit z) (h0 : 0 ≤ k) (h1 : k < (its.length : Int)) (hf : (its.length : Int) < 2 ^ 63) (h : ∀ x t, 0 ≤ x → x ≤ 1 → Q (.int x t) s)
    (hs : subscripted slice false (.ref l) (.int k u) = operate [.ref l, .int k u] (getItem (.ref l) (.int k u)) := by with_unfolding_all rfl) :
    wpAny (model prog w) A (subscriptTail value slice (.ref l) (.int k u)) Q E s := by
  have hl : s.heap.IsList l its.toArray := isList_of N hm
  first | (refine x2_3 (bits_at hi (j := k.toNat) (by omega)) ?_; intro x t e h2 h3) | obtain ⟨x, t, e, h2, h3⟩ := bits_at hi (j := k.toNat) (by omega)
  exact tail_any hl.typeIs slot_list_getitem.lookup (wpAny_getItem_list hl h0 (by omega) (by simpa using e) (h x t h2 h3)) hs
end
local macro_rules | `(tactic| walk_at "m_comp") => `(tactic| (refine LCg.ListComp_U (F₀ := by assumption) (by with_unfolding_all rfl) (by decide) (by rfl) (by decide) (by rfl) ?_))
local macro_rules | `(tactic| walk_at "m_compA") => `(tactic| (refine LCg.Assign_ListComp_U (F₀ := by assumption) (by rfl) (by with_unfolding_all rfl) (by with_unfolding_all rfl) (by decide) (by rfl) (by decide) (by rfl) (by rfl) (by rfl) ?_))
local macro_rules | `(tactic| walk_at "m_lsize") => `(tactic| (rw [PySem.sizeLine_eq]; (try simp only [List.size_toArray]); omega))
local macro_rules | `(tactic| walk_at "m_csub") => `(tactic| (first | ((repeat walk_at "m_fa"); first | exact List.forall_mem_nil _ | (intro p hp; (repeat (first | (with_reducible exact hp) | (with_reducible apply List.mem_cons_of_mem))); done)) | lcg_sub | (intro p hp; k_ownIn)))
local macro_rules | `(tactic| walk_at "m_csrc") => `(tactic| first | exact True.intro | exact Or.inr ⟨_, by k_mem, rfl, _, rfl⟩)
local macro_rules | `(tactic| walk_at "m_freshD") => `(tactic| (refine' fresh_off ?S ?N ?o ?n; (case S => assumption); (case o => assumption); (case N => assumption); (case n => (intro p hp; k_ownIn))))
local macro_rules | `(tactic| walk_at "eval ListComp") => `(tactic| walk_at "m_comp")
local macro_rules | `(tactic| walk_at "CompSrc") => `(tactic| refine Stop.go ?_)
local macro_rules | `(tactic| walk_at "CompEnd") => `(tactic| refine Stop.go ?_)
theorem fresh_C15 : True := by
  w_top off
  trivial
section
variable {w : World} {loose : List Str} {mean : ExcName → Option Value} {mg mb : Str → Option Value} {H₀ H : Heap}

set_option maxHeartbeats 600000 in
theorem and_ctr (G : Gr w loose mean mg mb H₀) {a b : Int} {ta tb : Tok} (ha : 0 ≤ a ∧ a ≤ 1) (hb : 0 ≤ b ∧ b ≤ 1) : Ctr w H₀ 409 [.int a ta, .int b tb] 2 20 H [] (fun _ r => Bit r) := by
  obtain ⟨a1, a2⟩ := ha
  obtain ⟨b1, b2⟩ := hb
  intro dp un fr gd s Q E eH st hdp hun hret
  subst eH
  have hvE : Val H₀ s.heap _ := (Val.nil : Val H₀ s.heap [])
  walk_at "m_fill"
  refine wpAny_call ?_
  k_dflt (refine' enterR G st _ hvE ?k6 ?k7 ?k8 ?k9 ?kB ?_ ?c2 ?c3 ?c4 ?c5; walk_at "m_rest0")
  intro g L h0 tk0 F N X T stg S l1
  refine hideQ (Q := Q) (fun _ _ x => x) ?_
  intro Q9 hQ9
  replace hret := hideR hQ9 hret
  clear hQ9
  show (let e9 := envOf _ _ _ _ _; wpAny _ (Around.deeper _ e9) (execs _ e9) _ _ _)
  intro e9
  (try k_lt l1)
  (try dsimp only)
  (try k_fold)
  k_steps
  all_goals (try dsimp only)
  all_goals exact hret _ _ _ (by walk_at "m_keep") ⟨_, _, rfl, by omega, by omega⟩

set_option maxHeartbeats 600000 in
theorem or_ctr (G : Gr w loose mean mg mb H₀) {a b : Int} {ta tb : Tok} (ha : 0 ≤ a ∧ a ≤ 1) (hb : 0 ≤ b ∧ b ≤ 1) : Ctr w H₀ 416 [.int a ta, .int b tb] 2 20 H [] (fun _ r => Bit r) := by
  obtain ⟨a1, a2⟩ := ha
  obtain ⟨b1, b2⟩ := hb
  intro dp un fr gd s Q E eH st hdp hun hret
  subst eH
  have hvE : Val H₀ s.heap _ := (Val.nil : Val H₀ s.heap [])
  walk_at "m_fill"
  refine wpAny_call ?_
  k_dflt (refine' enterR G st _ hvE ?k6 ?k7 ?k8 ?k9 ?kB ?_ ?c2 ?c3 ?c4 ?c5; walk_at "m_rest0")
  intro g L h0 tk0 F N X T stg S l1
  refine hideQ (Q := Q) (fun _ _ x => x) ?_
  intro Q9 hQ9
  replace hret := hideR hQ9 hret
  clear hQ9
  show (let e9 := envOf _ _ _ _ _; wpAny _ (Around.deeper _ e9) (execs _ e9) _ _ _)
  intro e9
  (try k_lt l1)
  (try dsimp only)
  (try k_fold)
  k_steps
  all_goals (try dsimp only)
  all_goals exact hret _ _ _ (by walk_at "m_keep") ⟨_, _, rfl, by omega, by omega⟩

set_option maxHeartbeats 600000 in
theorem notitem_ctr (G : Gr w loose mean mg mb H₀) {a : Int} {ta : Tok} : Ctr w H₀ 423 [.int a ta] 2 20 H [] (fun _ r => Cell r) := by
  intro dp un fr gd s Q E eH st hdp hun hret
  subst eH
  have hvE : Val H₀ s.heap _ := (Val.nil : Val H₀ s.heap [])
  walk_at "m_fill"
  refine wpAny_call ?_
  k_dflt (refine' enterR G st _ hvE ?k6 ?k7 ?k8 ?k9 ?kB ?_ ?c2 ?c3 ?c4 ?c5; walk_at "m_rest0")
  intro g L h0 tk0 F N X T stg S l1
  refine hideQ (Q := Q) (fun _ _ x => x) ?_
  intro Q9 hQ9
  replace hret := hideR hQ9 hret
  clear hQ9
  show (let e9 := envOf _ _ _ _ _; wpAny _ (Around.deeper _ e9) (execs _ e9) _ _ _)
  intro e9
  (try k_lt l1)
  (try dsimp only)
  (try k_fold)
  k_steps
  all_goals (try dsimp only)
  all_goals exact hret _ _ _ (by walk_at "m_keep") (.inr ⟨_, _, rfl⟩)

set_option maxHeartbeats 600000 in
theorem truth_ctr (G : Gr w loose mean mg mb H₀) {a : Int} {kd : Str} {ta tk : Tok} (hk : kd = sI ∨ kd = sL) : Ctr w H₀ 430 [.str kd tk, .int a ta] 2 20 H [] (fun _ r => Bit r) := by
  rcases hk with rfl | rfl
  all_goals (
    intro dp un fr gd s Q E eH st hdp hun hret
    subst eH
    have hvE : Val H₀ s.heap _ := (Val.nil : Val H₀ s.heap [])
    walk_at "m_fill"
    refine wpAny_call ?_
    k_dflt (refine' enterR G st _ hvE ?k6 ?k7 ?k8 ?k9 ?kB ?_ ?c2 ?c3 ?c4 ?c5; walk_at "m_rest0")
    intro g L h0 tk0 F N X T stg S l1
    refine hideQ (Q := Q) (fun _ _ x => x) ?_
    intro Q9 hQ9
    replace hret := hideR hQ9 hret
    clear hQ9
    show (let e9 := envOf _ _ _ _ _; wpAny _ (Around.deeper _ e9) (execs _ e9) _ _ _)
    intro e9
    (try k_lt l1)
    (try dsimp only)
    (try k_fold)
    k_steps
    all_goals (try dsimp only)
    all_goals exact hret _ _ _ (by walk_at "m_keep") ⟨_, _, rfl, by omega, by omega⟩)
end
local macro_rules | `(tactic| walk_at "m_none16") => `(tactic| skip)
theorem fresh_C16 : True := by
  w_top off
  trivial
section
variable {w : World} {loose : List Str} {mean : ExcName → Option Value} {mg mb : Str → Option Value} {H₀ H : Heap}

set_option maxHeartbeats 600000 in
theorem truths_ctr (G : Gr w loose mean mg mb H₀) {l : List (Addr × Obj)} {x : Addr} {kd : Str} {its : List Value} {xs : List Int} {av : Value} (V : Val H₀ H l) (ox : Vec w l x kd its av) (hk : kd = sI ∨ kd = sL) (hi : IntsAre its xs) (hn : its.length < 100) :
    Ctr w H₀ 435 [.ref x] 6 60 H [] (fun h' r => ∃ (li : Addr) (zs : List Value) (c : Nat), r = .ref li ∧ H.get? li = none ∧ h'.get? li = some (listOf zs.toArray c) ∧ zs.length = its.length ∧ ∀ z ∈ zs, Bit z) := by
  obtain ⟨dx, t1, t2, t3, t4, t5, tk, li, n', h1, h2, h3⟩ := ox
  intro dp un fr gd s Q E eH st hdp hun hret
  subst eH
  have hvE : Val H₀ s.heap _ := V.pick h1 (V.pick h2 (V.pick h3 Val.nil))
  walk_at "m_fill"
  refine wpAny_call ?_
  k_dflt (refine' enterC (binds := [(Str.ofString "v", .ref x)]) G st _ hvE ?k6 ?k7 ?k8 ?k9 ?kB ?kD ?_ ?c2 ?c3 ?c4; walk_at "m_restC")
  intro g L h0 tk0 cells F N Y X T stg S l1
  refine hideQ (Q := Q) (fun _ _ x => x) ?_
  intro Q9 hQ9
  replace hret := hideR hQ9 hret
  clear hQ9
  show (let e9 := envOfC _ _ _ _ _; wpAny _ (Around.deeper _ e9) (execs _ e9) _ _ _)
  intro e9
  (try k_lt l1)
  k_cells Y
  (try simp only [List.cons_append, List.nil_append] at N)
  (try dsimp only)
  (try k_fold)
  rename_i oc dc
  k_steps
  unfold Stop
  refine LCg.CompSrc.ledger (by rfl) (by assumption) (by assumption) (by k_mem) (by walk_at "m_lsize") ?_
  intro g'
  refine comp_inv its.toArray.size (fun i ys nx => nx = [(L + 1, oc), (x, instObj 257 dx), (dx, vdict w t1 t2 t3 t4 t5 kd tk li av), (li, listOf its.toArray n')] ∧ ys.length = i ∧ ∀ z ∈ ys, Bit z) ?_ ?_ _ 0 [] _ (Nat.zero_add _) ⟨rfl, rfl, fun _ h => nomatch h⟩
  · intro i ys nx v I oI C oC D m2 h tk E' hi' hP qz0
    first | (revert qz0; revert nx; refine y0_2 ?_; intro ez hz) | obtain ⟨rfl, ez, hz⟩ := qz0
    intro hC hx F2 N2 off ne
    first | (refine x2_2 (IntsAre.at hi i v (by simpa using hP)) ?_; intro k tv e9z hk'; subst e9z) | obtain ⟨k, tv, rfl, hk'⟩ := IntsAre.at hi i v (by simpa using hP)
    have off' := off
    simp only [LCg.Off3, and_true] at off'
    k_steps
    (try unfold Stop)
    refine go0 (truth_ctr G hk) (by assumption) (by assumption) (by assumption) ⟨by walk_at "m_room", by walk_at "m_room"⟩ ?_
    intro rr1 hh1 tk1 kp1 ps1 F1 N1
    k_steps
    unfold Stop
    refine comp_end (by assumption) (by assumption) (by walk_at "m_csub") off (by walk_at "m_csrc") ⟨rfl, by simp [ez], cells_snoc hz ps1⟩
  · intro ys nx qz0
    first | (revert qz0; revert nx; refine y0_2 ?_; intro ez hz) | obtain ⟨rfl, ez, hz⟩ := qz0
    unfold LCg.FinE
    intro D h tk F2 N2 off
    (try simp only [List.nil_append, List.cons_append] at N2)
    (try dsimp only)
    exact hret _ _ _ (by walk_at "m_keep") ⟨D, ys, ys.length, rfl, by walk_at "m_freshD", by walk_at "m_got", by simpa using ez, hz⟩
end
local macro_rules | `(tactic| walk_at "m_none17") => `(tactic| skip)
theorem fresh_C17 : True := by
  w_top off
  trivial
section
variable {w : World} {loose : List Str} {mean : ExcName → Option Value} {mg mb : Str → Option Value} {H₀ H : Heap}

set_option maxHeartbeats 600000 in
theorem operand_ctr (G : Gr w loose mean mg mb H₀) {l : List (Addr × Obj)} {x : Addr} {kd : Str} {its : List Value} {xs : List Int} {av : Value} (V : Val H₀ H l) (ox : Vec w l x kd its av) (hk : kd = sI ∨ kd = sL) (hi : IntsAre its xs) (hn : its.length < 100) :
    Ctr w H₀ 442 [.ref x] 8 80 H [] (fun h' r => ∃ (li : Addr) (zs : List Value) (c : Nat), r = .ref li ∧ H.get? li = none ∧ h'.get? li = some (listOf zs.toArray c) ∧ zs.length = its.length ∧ ∀ z ∈ zs, Bit z) := by
  obtain ⟨dx, t1, t2, t3, t4, t5, tk, li, n', h1, h2, h3⟩ := id ox
  have hk' := hk
  rcases hk with rfl | rfl
  all_goals (
    intro dp un fr gd s Q E eH st hdp hun hret
    subst eH
    have hvE : Val H₀ s.heap _ := V.pick h1 (V.pick h2 Val.nil)
    walk_at "m_fill"
    refine wpAny_call ?_
    k_dflt (refine' enterR G st _ hvE ?k6 ?k7 ?k8 ?k9 ?kB ?_ ?c2 ?c3 ?c4 ?c5; walk_at "m_rest0")
    intro g L h0 tk0 F N X T stg S l1
    refine hideQ (Q := Q) (fun _ _ x => x) ?_
    intro Q9 hQ9
    replace hret := hideR hQ9 hret
    clear hQ9
    show (let e9 := envOf _ _ _ _ _; wpAny _ (Around.deeper _ e9) (execs _ e9) _ _ _)
    intro e9
    (try k_lt l1)
    (try dsimp only)
    (try k_fold)
    k_steps
    (try unfold Stop)
    refine go0 (truths_ctr G (V.keep (by walk_at "m_keep")) ox hk' hi hn) (by assumption) (by assumption) (by assumption) ⟨by walk_at "m_room", by walk_at "m_room"⟩ ?_
    intro rr1 hh1 tk1 kp1 ps1 F1 N1
    first | (revert ps1; revert rr1; refine y3_4 ?_; intro l1' zs c f1 g1 e1 hz) | obtain ⟨l1', zs, c, rfl, f1, g1, e1, hz⟩ := ps1
    have fl : s.heap.get? l1' = none := by walk_at "m_fresh"
    have N1' := news_cons (by assumption) f1 g1 N1
    clear N1
    k_steps
    (try dsimp only)
    exact hret _ _ _ (by walk_at "m_keep") ⟨l1', zs, c, rfl, fl, by walk_at "m_got", e1, hz⟩)
local macro_rules | `(tactic| walk_at "exec Assign cons ListComp") => `(tactic| walk_at "m_compA")
local macro_rules | `(tactic| walk_at "callWith ref") => `(tactic| (k_here; k_dflt (refine' callWith_K ?k1 ?k2 ?_; (case k1 => k_asm); (case k2 => with_reducible assumption); k_whole)))

local macro_rules | `(tactic| walk_at "subscriptTail Name BinOp ref int") => `(tactic| (k_here; walk_at "s_si"; k_dflt (refine' m_bit ?N ?m ?i ?a ?b ?c ?_; (case N => k_asm); (case m => k_mem); (case i => assumption); (case a => omega); (case b => omega); (case c => omega); k_whole); intro x9 t9 m9 m9'))
set_option maxHeartbeats 600000 in
theorem pairs_ctr (G : Gr w loose mean mg mb H₀) {l : List (Addr × Obj)} {x y f : Addr} {kx ky : Str} {ix iy : List Value} {ax ay nv : Value} {n m N a b : Int} {ox' oy' : Option Addr} {xs ys : List Int} (V : Val H₀ H l)
    (ox : Vec w l x kx ix ax) (oy : Vec w l y ky iy ay) (kx' : kx = sI ∨ kx = sL) (ky' : ky = sI ∨ ky = sL) (nx : (ix.length : Int) = n) (ny : (iy.length : Int) = m) (P : Pair w l ax ay n m N a b)
    (hN : a * b = N) (h1 : 1 ≤ N) (hb : N < 100) (ha : 1 ≤ a ∧ a ≤ 3) (hb' : 1 ≤ b ∧ b ≤ 3) (dx : DnOf w l ax ox') (dy : DnOf w l ay oy')
    (isx : IntsAre ix xs) (isy : IntsAre iy ys) (hkf : keepIn (Mine.hd.heap_39 w.params) (.ref f) = true) (hf : ∀ (H : Heap) (a b : Int) (ta tb : Tok), (0 ≤ a ∧ a ≤ 1) → (0 ≤ b ∧ b ≤ 1) → Ctr w H₀ f [.int a ta, .int b tb] 2 20 H [] (fun _ r => Bit r)) :
    Ctr w H₀ 447 [.ref x, .ref y, nv, .ref f] 20 200 H [] (fun h' r => ResOf w H h' sL N a b (dnRow ox' oy') r) := by
  first | (refine x0_4 (P.range h1) ?_; intro q1 q2 q3 q4) | obtain ⟨q1, q2, q3, q4⟩ := P.range h1
  intro dp un fr gd s Q E eH st hdp hun hret
  subst eH
  have hvE : Val H₀ s.heap _ := (Val.nil : Val H₀ s.heap [])
  walk_at "m_fill"
  refine wpAny_call ?_
  k_dflt (refine' enterC (binds := [(Str.ofString "u", .ref x), (Str.ofString "v", .ref y), (Str.ofString "notes", nv), (Str.ofString "item_op", .ref f)]) G st _ hvE ?k6 ?k7 ?k8 ?k9 ?kB ?kD ?_ ?c2 ?c3 ?c4; walk_at "m_restC")
  intro g L h0 tk0 cells F N Y X T stg S l1
  refine hideQ (Q := Q) (fun _ _ x => x) ?_
  intro Q9 hQ9
  replace hret := hideR hQ9 hret
  clear hQ9
  show (let e9 := envOfC _ _ _ _ _; wpAny _ (Around.deeper _ e9) (execs _ e9) _ _ _)
  intro e9
  (try k_lt l1)
  k_cells Y
  (try simp only [List.cons_append, List.nil_append] at N)
  (try dsimp only)
  (try k_fold)
  k_steps
  (try unfold Stop)
  refine go0 (operand_ctr G (V.keep (by walk_at "m_keep")) ox kx' isx (ar_l100 nx q1 hb)) (by assumption) (by assumption) (by assumption) ⟨by walk_at "m_room", by walk_at "m_room"⟩ ?_
  intro rr1 hh1 tk1 kp1 ps1 F1 N1
  first | (revert ps1; revert rr1; refine y3_4 ?_; intro li1 zs1 c1 f1 g1 e1 hz1) | obtain ⟨li1, zs1, c1, rfl, f1, g1, e1, hz1⟩ := ps1
  have N1' := news_cons (by assumption) f1 g1 N1
  clear N1
  k_steps
  (try unfold Stop)
  refine go0 (operand_ctr G (V.keep (by walk_at "m_keep")) oy ky' isy (ar_l100 ny q2 hb)) (by assumption) (by assumption) (by assumption) ⟨by walk_at "m_room", by walk_at "m_room"⟩ ?_
  intro rr2 hh2 tk2 kp2 ps2 F2 N2
  first | (revert ps2; revert rr2; refine y3_4 ?_; intro li2 zs2 c2 f2 g2 e2 hz2) | obtain ⟨li2, zs2, c2, rfl, f2, g2, e2, hz2⟩ := ps2
  have N2' := news_cons (by assumption) f2 g2 N2
  clear N2
  have z1 : (zs1.length : Int) < 2 ^ 63 := (ar_l63 e1 nx q1 hb).1
  have z10 : 0 < (zs1.length : Int) := (ar_l63 e1 nx q1 hb).2
  have z2 : (zs2.length : Int) < 2 ^ 63 := (ar_l63 e2 ny q2 hb).1
  have z20 : 0 < (zs2.length : Int) := (ar_l63 e2 ny q2 hb).2
  k_steps
  (try unfold Stop)
  refine go0 (common_ctr G (V.keep (by walk_at "m_keep")) ox oy kx' ky' nx ny P hN h1 hb ha hb') (by assumption) (by assumption) (by assumption) ⟨by walk_at "m_room", by walk_at "m_room"⟩ ?_
  intro rr3 hh3 tk3 kp3 ps3 F3 N3
  first | (revert ps3; revert rr3; refine y1_0 ?_; intro tn) | obtain ⟨tn, rfl⟩ := ps3
  k_steps
  unfold Stop
  rename_i R9 F9 N9 K9
  refine LCg.CompSrc.range (n := N.toNat) (by rfl) F9 N9 R9 (range_small _ (Int.lt_trans hb (by decide)) (Int.le_trans (by decide) h1)) (range_size _ (Int.le_trans (by decide) h1)) (by rw [PySem.sizeLine_eq]; exact ar_nat (Int.lt_trans hb (by decide))) ?_
  intro g'
  refine comp_inv N.toNat (fun i ys nx => nx = _ ∧ ys.length = i ∧ ∀ z ∈ ys, Bit z) ?_ ?_ _ 0 [] _ (Nat.zero_add _) ⟨rfl, rfl, fun _ h => nomatch h⟩
  · intro i ys nx v I oI C oC D m2 h tk E' hi' qz0
    first | (refine x1_1 (qz0) ?_; intro tv e9z; clear qz0; subst e9z) | obtain ⟨tv, rfl⟩ := qz0
    intro qz1
    first | (revert qz1; revert nx; refine y0_2 ?_; intro ez hz) | obtain ⟨rfl, ez, hz⟩ := qz1
    intro hC hx F2 N2 off ne
    have off' := off
    simp only [List.cons_append, List.nil_append, LCg.Off3, and_true] at off'
    simp only [List.cons_append, List.nil_append] at N2
    k_steps
    (try unfold Stop)
    refine go0 (hf _ _ _ _ _ ⟨by omega, by omega⟩ ⟨by omega, by omega⟩) (by assumption) (by assumption) (by assumption) ⟨by walk_at "m_room", by walk_at "m_room"⟩ ?_
    intro rr5 hh5 tk5 kp5 ps5 F5 N5
    refine comp_end F5 N5 (by walk_at "m_csub") off (by walk_at "m_csrc") ⟨rfl, by simp [ez], cells_snoc hz ps5⟩
  · intro ys nx qz0
    first | (revert qz0; revert nx; refine y0_2 ?_; intro ez hz) | obtain ⟨rfl, ez, hz⟩ := qz0
    unfold LCg.FinA
    intro D h tk F2 N2 off
    have off' := off
    simp only [List.cons_append, List.nil_append, LCg.Off1, and_true] at off'
    (try simp only [List.nil_append, List.cons_append] at N2)
    (try dsimp only)
    have fl : s.heap.get? D = none := by walk_at "m_freshD"
    k_steps
    rename_i rx' rdx t1' t2' t3' t4' t5' h1' tk' l1' l2' h2' Fw Nw
    have kp0 : KeepBut [] s.heap _ := keep_now S hvE Fw Nw [] (by intro p hp _; k_ownIn)
    have fx : s.heap.get? rx' = none := by walk_at "m_fresh"
    have fz : s.heap.get? rdx = none := by walk_at "m_fresh"
    refine shape_ctr G (V.keep kp0) ox oy kx' ky' nx ny P hN h1 hb ha hb' dx dy (Val.pick (val_now stg Nw) (.head _) (Val.pick (val_now stg Nw) (.tail _ (.head _)) Val.nil)) l2' _ _ _ _ _ _ _ rfl (stays_now stg Fw) (by walk_at "m_room") (by walk_at "m_room") ?_
    intro rr5 hh5 tk5 kp5 ps5
    first | (revert ps5; revert rr5; refine y0_1 ?_; intro qq5) | obtain ⟨rfl, qq5⟩ := ps5
    first | (refine x1_2 (qq5) ?_; intro d hd qr5; clear qq5) | obtain ⟨d, hd, qr5⟩ := qq5
    obtain ⟨od, yv, dy', ly, u1, u2, u3, u4, u5, uk, ta, tb, nn, hnew, hod, lo⟩ := qr5
    have U := upd_back (pre := [(rx', instObj 257 rdx)]) Fw Nw kp5 hd (fun p hp => by rw [List.mem_singleton.mp hp]; exact Nat.ne_of_gt l2') (by walk_at "m_nes")
    have N5 := news_app Fw hnew U.2
    have F5 := U.1
    clear Nw Fw U
    simp only [List.cons_append, List.nil_append] at N5
    k_steps
    (try dsimp only)
    rename News _ _ _ _ => N6
    exact hret _ _ _ (by walk_at "m_keep") ⟨rx', rdx, D, d, t1', t2', t3', t4', t5', _, ys, ys.length, rfl, ar_len ez h1, faC (⟨fx, by walk_at "m_got"⟩) (faC (⟨fz, by walk_at "m_got"⟩) (faC (⟨fl, by walk_at "m_got"⟩) (List.forall_mem_nil _))), fun z hz' => (hz z hz').cell,
      od, yv, dy', ly, u1, u2, u3, u4, u5, uk, ta, tb, nn, fun p hp => ⟨fresh_kp kp0 (hnew p hp).1, (N6 p (List.mem_append_left _ hp)).1⟩, hod, lo⟩
end
local macro_rules | `(tactic| walk_at "m_none18") => `(tactic| skip)
local macro_rules | `(tactic| walk_at "m_none19") => `(tactic| skip)
local macro_rules | `(tactic| walk_at "m_none20") => `(tactic| skip)
local macro_rules | `(tactic| walk_at "m_none21") => `(tactic| skip)
theorem fresh_C18 : True := by
  w_top off
  trivial
section
variable {w : World} {loose : List Str} {mean : ExcName → Option Value} {mg mb : Str → Option Value} {H₀ H : Heap}

theorem NewRow.base {H H1 h' : Heap} {d : Addr} {a b : Int} {hs : List (Str × Value)} (k : KeepBut [] H H1) (h : NewRow w H1 h' d a b hs) : NewRow w H h' d a b hs := by
  obtain ⟨od, yv, dy', ly, u1, u2, u3, u4, u5, uk, ta, tb, nn, hn, r, r'⟩ := h
  exact ⟨od, yv, dy', ly, u1, u2, u3, u4, u5, uk, ta, tb, nn, fun p hp => ⟨fresh_kp k (hn p hp).1, (hn p hp).2⟩, r, r'⟩
theorem ResOf.base {H H1 h' : Heap} {k : Str} {N a b : Int} {hs : List (Str × Value)} {r : Value} (kp : KeepBut [] H H1) (h : ResOf w H1 h' k N a b hs r) : ResOf w H h' k N a b hs r := by
  obtain ⟨z, dz, li, d, t1, t2, t3, t4, t5, tk, zs, nl, e, hz, hn, hc, hr⟩ := h
  exact ⟨z, dz, li, d, t1, t2, t3, t4, t5, tk, zs, nl, e, hz, fun p hp => ⟨fresh_kp kp (hn p hp).1, (hn p hp).2⟩, hc, hr.base kp⟩
theorem and_keep : keepIn (Mine.hd.heap_39 w.params) (.ref 409) = true := by
  walk_at "m_fill"
  have h : keepIn (Mine.hd.heap_39 w.params) (.ref 409) = true := by k_is
  exact h
theorem or_keep : keepIn (Mine.hd.heap_39 w.params) (.ref 416) = true := by
  walk_at "m_fill"
  have h : keepIn (Mine.hd.heap_39 w.params) (.ref 416) = true := by k_is
  exact h

theorem and_f (G : Gr w loose mean mg mb H₀) : ∀ (H : Heap) (a b : Int) (ta tb : Tok), (0 ≤ a ∧ a ≤ 1) → (0 ≤ b ∧ b ≤ 1) → Ctr w H₀ 409 [.int a ta, .int b tb] 2 20 H [] (fun _ r => Bit r) := fun _ _ _ _ _ ha hb => and_ctr G ha hb
theorem or_f (G : Gr w loose mean mg mb H₀) : ∀ (H : Heap) (a b : Int) (ta tb : Tok), (0 ≤ a ∧ a ≤ 1) → (0 ≤ b ∧ b ≤ 1) → Ctr w H₀ 416 [.int a ta, .int b tb] 2 20 H [] (fun _ r => Bit r) := fun _ _ _ _ _ ha hb => or_ctr G ha hb
set_option maxHeartbeats 600000 in
theorem land_ctr (G : Gr w loose mean mg mb H₀) {l : List (Addr × Obj)} {x y : Addr} {kx ky : Str} {ix iy : List Value} {ax ay nv : Value} {n m N a b : Int} {ox' oy' : Option Addr} {xs ys : List Int} (V : Val H₀ H l)
    (ox : Vec w l x kx ix ax) (oy : Vec w l y ky iy ay) (kx' : kx = sI ∨ kx = sL) (ky' : ky = sI ∨ ky = sL) (nx : (ix.length : Int) = n) (ny : (iy.length : Int) = m) (P : Pair w l ax ay n m N a b)
    (hN : a * b = N) (h1 : 1 ≤ N) (hb : N < 100) (ha : 1 ≤ a ∧ a ≤ 3) (hb' : 1 ≤ b ∧ b ≤ 3) (dx : DnOf w l ax ox') (dy : DnOf w l ay oy') (isx : IntsAre ix xs) (isy : IntsAre iy ys) :
    Ctr w H₀ 454 [.ref x, .ref y, nv] 22 220 H [] (fun h' r => ResOf w H h' sL N a b (dnRow ox' oy') r) := by
  intro dp un fr gd s Q E eH st hdp hun hret
  subst eH
  have hvE : Val H₀ s.heap _ := (Val.nil : Val H₀ s.heap [])
  walk_at "m_fill"
  refine wpAny_call ?_
  k_dflt (refine' enterR (binds := [(Str.ofString "u", .ref x), (Str.ofString "v", .ref y), (Str.ofString "notes", nv)]) G st _ hvE ?k6 ?k7 ?k8 ?k9 ?kB ?_ ?c2 ?c3 ?c4 ?c5; walk_at "m_rest0")
  intro g L h0 tk0 F N X T stg S l1
  refine hideQ (Q := Q) (fun _ _ x => x) ?_
  intro Q9 hQ9
  replace hret := hideR hQ9 hret
  clear hQ9
  show (let e9 := envOf _ _ _ _ _; wpAny _ (Around.deeper _ e9) (execs _ e9) _ _ _)
  intro e9
  (try k_lt l1)
  (try dsimp only)
  (try k_fold)
  k_steps
  (try unfold Stop)
  refine go0 (pairs_ctr G (V.keep (by walk_at "m_keep")) ox oy kx' ky' nx ny P hN h1 hb ha hb' dx dy isx isy and_keep (and_f G)) (by assumption) (by assumption) (by assumption) ⟨by walk_at "m_room", by walk_at "m_room"⟩ ?_
  intro rr1 hh1 tk1 kp1 ps1 F1 N1
  have kp0 : KeepBut [] s.heap h0 := keep_now S hvE F N [] (by intro p hp _; k_ownIn)
  exact hret _ _ _ (by walk_at "m_keep") (ps1.base kp0)
set_option maxHeartbeats 600000 in
theorem lor_ctr (G : Gr w loose mean mg mb H₀) {l : List (Addr × Obj)} {x y : Addr} {kx ky : Str} {ix iy : List Value} {ax ay nv : Value} {n m N a b : Int} {ox' oy' : Option Addr} {xs ys : List Int} (V : Val H₀ H l)
    (ox : Vec w l x kx ix ax) (oy : Vec w l y ky iy ay) (kx' : kx = sI ∨ kx = sL) (ky' : ky = sI ∨ ky = sL) (nx : (ix.length : Int) = n) (ny : (iy.length : Int) = m) (P : Pair w l ax ay n m N a b)
    (hN : a * b = N) (h1 : 1 ≤ N) (hb : N < 100) (ha : 1 ≤ a ∧ a ≤ 3) (hb' : 1 ≤ b ∧ b ≤ 3) (dx : DnOf w l ax ox') (dy : DnOf w l ay oy') (isx : IntsAre ix xs) (isy : IntsAre iy ys) :
    Ctr w H₀ 461 [.ref x, .ref y, nv] 22 220 H [] (fun h' r => ResOf w H h' sL N a b (dnRow ox' oy') r) := by
  intro dp un fr gd s Q E eH st hdp hun hret
  subst eH
  have hvE : Val H₀ s.heap _ := (Val.nil : Val H₀ s.heap [])
  walk_at "m_fill"
  refine wpAny_call ?_
  k_dflt (refine' enterR (binds := [(Str.ofString "u", .ref x), (Str.ofString "v", .ref y), (Str.ofString "notes", nv)]) G st _ hvE ?k6 ?k7 ?k8 ?k9 ?kB ?_ ?c2 ?c3 ?c4 ?c5; walk_at "m_rest0")
  intro g L h0 tk0 F N X T stg S l1
  refine hideQ (Q := Q) (fun _ _ x => x) ?_
  intro Q9 hQ9
  replace hret := hideR hQ9 hret
  clear hQ9
  show (let e9 := envOf _ _ _ _ _; wpAny _ (Around.deeper _ e9) (execs _ e9) _ _ _)
  intro e9
  (try k_lt l1)
  (try dsimp only)
  (try k_fold)
  k_steps
  (try unfold Stop)
  refine go0 (pairs_ctr G (V.keep (by walk_at "m_keep")) ox oy kx' ky' nx ny P hN h1 hb ha hb' dx dy isx isy or_keep (or_f G)) (by assumption) (by assumption) (by assumption) ⟨by walk_at "m_room", by walk_at "m_room"⟩ ?_
  intro rr1 hh1 tk1 kp1 ps1 F1 N1
  have kp0 : KeepBut [] s.heap h0 := keep_now S hvE F N [] (by intro p hp _; k_ownIn)
  exact hret _ _ _ (by walk_at "m_keep") (ps1.base kp0)
end
local macro_rules | `(tactic| walk_at "m_none22") => `(tactic| skip)
theorem fresh_C19 : True := by
  w_top off
  trivial
section
variable {w : World} {loose : List Str} {mean : ExcName → Option Value} {mg mb : Str → Option Value} {H₀ H : Heap}

theorem dict_of_dict {prog : Program} {K : Type} [DecidableEq K] {knd : KeyKind prog w K} {A : Around} {E : Value → Shared → Prop} {s : Shared} {h₀ : Heap} {L src : Addr} {m : Str → Option Value} {news : List (Addr × Obj)} {o : Obj} {kvs : List (K × Value)} {Q : Value → Shared → Prop}
    (F : Fr h₀ L s.heap m) (N : News h₀ L s.heap news) (hbig : h₀.NoLimit) (hp : (src, o) ∈ news) (hd : o.IsDictOf knd kvs) (lo : (src == sysModules) = false) (hsz : kvs.length ≤ sizeLine)
    (k : ∀ d h' o', Fr h₀ L h' m → News h₀ L h' ((d, o') :: news) → (∀ p ∈ news, p.1 < d) → (d == sysModules) = false → o'.IsDictOf knd kvs → Q (.ref d) { s with heap := h' }) :
    wpAny (model prog w) A (call (.type "dict") [.ref src]) Q E s :=
  kt_call_dict lo (Heap.dictOf_iff.mpr ⟨o, (N _ hp).1, hd⟩) hsz fun h' hm hs => by
    first | (refine x1_2 (Heap.dictOf_iff.mp hm) ?_; intro o' ho' hd') | obtain ⟨o', ho', hd'⟩ := Heap.dictOf_iff.mp hm
    have N1 := News.push F N { cls := .type "dict", data := .dict #[] }
    exact k _ h' o' ((F.push _).change hs (N1 _ (.head _)).2.1 (N1.fresh (.head _))) (N1.setHead N.apart hs ho') (fun p hp => Heap.lt_size (N p hp).1) (F.notModules (modules_low hbig)) hd'
/-- a dict that a call has made, with these pairs -/
inductive KeptRow (w : World) (H h' : Heap) (d : Addr) (kvs : List (Str × Value)) : Prop where
  | mk (od : Obj) (h1 : H.get? d = none) (h2 : h'.get? d = some od) (h3 : od.IsDictOf (PySem.strKind PG w) kvs) (h4 : (d == sysModules) = false) : KeptRow w H h' d kvs

set_option maxHeartbeats 600000 in
theorem unary_ctr (G : Gr w loose mean mg mb H₀) {l : List (Addr × Obj)} {x : Addr} {kd : Str} {its : List Value} {av : Value} (V : Val H₀ H l) (ox : Vec w l x kd its av) (hk : kd = sI ∨ kd = sL) :
    Ctr w H₀ 390 [.ref x] 2 20 H [] (fun _ r => r = .none) := by
  obtain ⟨dx, t1, t2, t3, t4, t5, tk, li, n', h1, h2, h3⟩ := id ox
  rcases hk with rfl | rfl
  all_goals (
    intro dp un fr gd s Q E eH st hdp hun hret
    subst eH
    have hvE : Val H₀ s.heap _ := V.pick h1 (V.pick h2 Val.nil)
    walk_at "m_fill"
    refine wpAny_call ?_
    k_dflt (refine' enterR G st _ hvE ?k6 ?k7 ?k8 ?k9 ?kB ?_ ?c2 ?c3 ?c4 ?c5; walk_at "m_rest0")
    intro g L h0 tk0 F N X T stg S l1
    refine hideQ (Q := Q) (fun _ _ x => x) ?_
    intro Q9 hQ9
    replace hret := hideR hQ9 hret
    clear hQ9
    show (let e9 := envOf _ _ _ _ _; wpAny _ (Around.deeper _ e9) (execs _ e9) _ _ _)
    intro e9
    (try k_lt l1)
    (try dsimp only)
    (try k_fold)
    k_steps
    (try dsimp only)
    exact hret _ _ _ (by walk_at "m_keep") rfl)

set_option maxHeartbeats 600000 in
theorem keepall_ctr (G : Gr w loose mean mg mb H₀) {l : List (Addr × Obj)} {x ad rx rdx li : Addr} {kx kd : Str} {ix : List Value} {t1 t2 t3 t4 t5 tk : Tok} {kvs : List (Str × Value)} (V : Val H₀ H l) (ox : Vec w l x kx ix (.ref ad)) (hd : Dct w l ad kvs)
    (hr : Val H₀ H [(rx, instObj 257 rdx), (rdx, vdict w t1 t2 t3 t4 t5 kd tk li .none)]) (hne : rdx < rx) (hl : ∀ p ∈ l, p.1 ≠ rdx) (hkv : kvs.length < 10) :
    Ctr w H₀ 383 [.ref x, .ref rx] 4 40 H [rdx] (fun h' r => r = .ref rx ∧ ∃ d, h'.get? rdx = some (vdict w t1 t2 t3 t4 t5 kd tk li (.ref d)) ∧ KeptRow w H h' d kvs) := by
  have o3 := hne
  k_lt2 o3
  obtain ⟨dx, a1, a2, a3, a4, a5, a6, lx, n', h1, h2, h3⟩ := id ox
  obtain ⟨od, hd1, hd2, lo⟩ := id hd
  have e0 : @Ne Nat x rdx := hl _ h1
  have e1 : @Ne Nat dx rdx := hl _ h2
  have e2 : @Ne Nat ad rdx := hl _ hd1
  intro dp un fr gd s Q E eH st hdp hun hret
  subst eH
  have hvE : Val H₀ s.heap _ := Val.pick hr (.head _) (Val.pick hr (.tail _ (.head _)) (V.pick h1 (V.pick h2 (V.pick hd1 Val.nil))))
  walk_at "m_fill"
  refine wpAny_call ?_
  k_dflt (refine' enterR (binds := [(Str.ofString "v", .ref x), (Str.ofString "result", .ref rx)]) G st _ hvE ?k6 ?k7 ?k8 ?k9 ?kB ?_ ?c2 ?c3 ?c4 ?c5; walk_at "m_rest0")
  intro g L h0 tk0 F N X T stg S l1
  refine hideQ (Q := Q) (fun _ _ x => x) ?_
  intro Q9 hQ9
  replace hret := hideR hQ9 hret
  clear hQ9
  show (let e9 := envOf _ _ _ _ _; wpAny _ (Around.deeper _ e9) (execs _ e9) _ _ _)
  intro e9
  (try k_lt l1)
  (try dsimp only)
  (try k_fold)
  k_steps
  refine dict_of_dict (knd := PySem.strKind _ _) (by assumption) (by assumption) T.nolimit (by k_mem) hd2 lo (by rw [PySem.sizeLine_eq]; omega) ?_
  intro d h' o' F1 N1 l1' lo' hd'
  k_lt l1'
  k_steps
  (try dsimp only)
  rename Fr _ _ _ _ => Fw
  rename News _ _ _ _ => Nw
  exact hret _ _ _ (keep_now S hvE Fw Nw [rdx] (sub_butN (by k_mem) (by intro p hp; k_ownIn))) ⟨rfl, d, News.get Nw (by k_mem), o', fresh_now S Nw (by k_mem) (notin_of_allLt (by simp only [AllLt, and_true] <;> omega)), News.get Nw (by k_mem), hd', lo'⟩
end
local macro_rules | `(tactic| walk_at "m_none23") => `(tactic| skip)
theorem fresh_C20 : True := by
  w_top off
  trivial
section
variable {w : World} {loose : List Str} {mean : ExcName → Option Value} {mg mb : Str → Option Value} {H₀ H : Heap}

/-- a result with a row of attributes copied whole -/
inductive UnOf (w : World) (H h' : Heap) (k : Str) (N : Int) (kvs : List (Str × Value)) (r : Value) : Prop where
  | mk (z dz li d : Addr) (t1 t2 t3 t4 t5 tk : Tok) (zs : List Value) (nl : Nat) (h1 : r = .ref z) (h2 : (zs.length : Int) = N) (h3 : ∀ p ∈ ([(z, instObj 257 dz), (dz, vdict w t1 t2 t3 t4 t5 k tk li (.ref d)), (li, listOf zs.toArray nl)] : List (Addr × Obj)), H.get? p.1 = none ∧ h'.get? p.1 = some p.2) (h4 : ∀ z ∈ zs, Cell z) (h5 : KeptRow w H h' d kvs) : UnOf w H h' k N kvs r
local macro_rules | `(tactic| walk_at "exec Assign cons ListComp") => `(tactic| walk_at "m_compA")

set_option maxHeartbeats 600000 in
theorem negate_ctr (G : Gr w loose mean mg mb H₀) {l : List (Addr × Obj)} {x ad : Addr} {kd : Str} {its : List Value} {xs : List Int} {nv : Value} {kvs : List (Str × Value)} {N : Int} (V : Val H₀ H l) (ox : Vec w l x kd its (.ref ad)) (hk : kd = sI ∨ kd = sL) (hd : Dct w l ad kvs) (hi : IntsAre its xs) (hn : its.length < 100) (nx : (its.length : Int) = N) (hkv : kvs.length < 10) :
    Ctr w H₀ 395 [.ref x, nv] 8 80 H [] (fun h' r => UnOf w H h' sI N kvs r) := by
  obtain ⟨dx, t1, t2, t3, t4, t5, tq, lx, n', h1, h2, h3⟩ := id ox
  have nk : (kd == Str.ofString "double") = false := by rcases hk with rfl | rfl <;> decide
  intro dp un fr gd s Q E eH st hdp hun hret
  subst eH
  have hvE : Val H₀ s.heap _ := V.pick h1 (V.pick h2 (V.pick h3 Val.nil))
  walk_at "m_fill"
  refine wpAny_call ?_
  k_dflt (refine' enterR (binds := [(Str.ofString "v", .ref x), (Str.ofString "notes", nv)]) G st _ hvE ?k6 ?k7 ?k8 ?k9 ?kB ?_ ?c2 ?c3 ?c4 ?c5; walk_at "m_rest0")
  intro g L h0 tk0 F N X T stg S l1
  refine hideQ (Q := Q) (fun _ _ x => x) ?_
  intro Q9 hQ9
  replace hret := hideR hQ9 hret
  clear hQ9
  show (let e9 := envOf _ _ _ _ _; wpAny _ (Around.deeper _ e9) (execs _ e9) _ _ _)
  intro e9
  (try k_lt l1)
  (try dsimp only)
  (try k_fold)
  k_steps
  (try unfold Stop)
  refine go0 (unary_ctr G (V.keep (by walk_at "m_keep")) ox hk) (by assumption) (by assumption) (by assumption) ⟨by walk_at "m_room", by walk_at "m_room"⟩ ?_
  intro rr1 hh1 tk1 kp1 ps1 F1 N1
  subst ps1
  k_steps
  unfold Stop
  rename Fr _ _ _ _ => F2
  rename News _ _ _ _ => N2
  refine LCg.CompSrc.ledger (by rfl) F2 N2 (by k_mem) (by walk_at "m_lsize") ?_
  intro g'
  refine comp_inv its.toArray.size (fun i ys nx => nx = [(x, instObj 257 dx), (dx, vdict w t1 t2 t3 t4 t5 kd tq lx (.ref ad)), (lx, listOf its.toArray n')] ∧ ys.length = i ∧ ∀ z ∈ ys, Cell z) ?_ ?_ _ 0 [] _ (Nat.zero_add _) ⟨rfl, rfl, fun _ h => nomatch h⟩
  · intro i ys nx v I oI C oC D m2 h tk E' hi' hP qz0
    first | (revert qz0; revert nx; refine y0_2 ?_; intro ez hz) | obtain ⟨rfl, ez, hz⟩ := qz0
    intro hC hx F2 N2 off ne
    first | (refine x2_2 (IntsAre.at hi i v (by simpa using hP)) ?_; intro k tv e9z hk'; subst e9z) | obtain ⟨k, tv, rfl, hk'⟩ := IntsAre.at hi i v (by simpa using hP)
    have off' := off
    simp only [LCg.Off3, and_true] at off'
    k_steps
    unfold Stop
    refine comp_end (by assumption) (by assumption) (by walk_at "m_csub") off (by walk_at "m_csrc") ⟨rfl, by simp [ez], cells_snoc hz (.inr ⟨_, _, rfl⟩)⟩
  · intro ys nx qz0
    first | (revert qz0; revert nx; refine y0_2 ?_; intro ez hz) | obtain ⟨rfl, ez, hz⟩ := qz0
    unfold LCg.FinA
    intro D h tk F2 N2 off
    have off' := off
    simp only [LCg.Off1, and_true] at off'
    have fl : s.heap.get? D = none := by walk_at "m_freshD"
    (try dsimp only)
    k_steps
    rename Fr _ _ _ _ => Fw
    rename News _ _ _ _ => Nw
    rename_i rx' rdx t1' t2' t3' t4' t5' h1' tk' l1' l2'
    have kp0 : KeepBut [] s.heap _ := keep_now S hvE Fw Nw [] (by intro p hp _; k_ownIn)
    have fx : s.heap.get? rx' = none := by walk_at "m_fresh"
    have fz : s.heap.get? rdx = none := by walk_at "m_fresh"
    refine keepall_ctr G (V.keep kp0) ox hd (Val.pick (val_now stg Nw) (.head _) (Val.pick (val_now stg Nw) (.tail _ (.head _)) Val.nil)) l2' (fun p hp e => by have := (V p hp).1; rw [e, fz] at this; cases this) hkv _ _ _ _ _ _ _ rfl (stays_now stg Fw) (by walk_at "m_room") (by walk_at "m_room") ?_
    intro rr5 hh5 tk5 kp5 ps5
    first | (revert ps5; revert rr5; refine y0_1 ?_; intro qq5) | obtain ⟨rfl, qq5⟩ := ps5
    first | (refine x1_2 (qq5) ?_; intro d hd5 qr5; clear qq5) | obtain ⟨d, hd5, qr5⟩ := qq5
    obtain ⟨od, fd, gd', hod, lo⟩ := qr5
    have U := upd_back (pre := [(rx', instObj 257 rdx)]) Fw Nw kp5 hd5 (fun p hp => by rw [List.mem_singleton.mp hp]; exact Nat.ne_of_gt l2') (by walk_at "m_nes")
    have N5 := U.2
    have F5 := U.1
    clear Nw Fw U
    simp only [List.cons_append, List.nil_append] at N5
    (try dsimp only)
    exact hret _ _ _ (by walk_at "m_keep") ⟨rx', rdx, D, d, t1', t2', t3', t4', t5', _, ys, ys.length, rfl, by simp only [List.size_toArray] at ez; omega, faC (⟨fx, by walk_at "m_got"⟩) (faC (⟨fz, by walk_at "m_got"⟩) (faC (⟨fl, by walk_at "m_got"⟩) (List.forall_mem_nil _))), hz, od, fresh_kp kp0 fd, gd', hod, lo⟩
end
local macro_rules | `(tactic| walk_at "m_none24") => `(tactic| skip)
local macro_rules | `(tactic| walk_at "m_none25") => `(tactic| skip)
theorem fresh_C21 : True := by
  w_top off
  trivial
section
variable {w : World} {loose : List Str} {mean : ExcName → Option Value} {mg mb : Str → Option Value} {H₀ H : Heap}

theorem ints_cell {its : List Value} {xs : List Int} (h : IntsAre its xs) : ∀ z ∈ its, Cell z := by
  induction h with
  | nil => intro z hz; cases hz
  | cons n t _ ih =>
    intro z hz
    rcases List.mem_cons.mp hz with rfl | hz
    · exact .inr ⟨_, _, rfl⟩
    · exact ih z hz
set_option maxHeartbeats 600000 in
theorem plus_ctr (G : Gr w loose mean mg mb H₀) {l : List (Addr × Obj)} {x ad : Addr} {kd : Str} {its : List Value} {xs : List Int} {nv : Value} {kvs : List (Str × Value)} {N : Int} (V : Val H₀ H l) (ox : Vec w l x kd its (.ref ad)) (hk : kd = sI ∨ kd = sL) (hd : Dct w l ad kvs) (hi : IntsAre its xs) (hn : its.length < 100) (nx : (its.length : Int) = N) (hkv : kvs.length < 10) :
    Ctr w H₀ 402 [.ref x, nv] 8 80 H [] (fun h' r => UnOf w H h' sI N kvs r) := by
  obtain ⟨dx, t1, t2, t3, t4, t5, tq, lx, n', h1, h2, h3⟩ := id ox
  have nk : (kd == Str.ofString "double") = false := by rcases hk with rfl | rfl <;> decide
  intro dp un fr gd s Q E eH st hdp hun hret
  subst eH
  have hvE : Val H₀ s.heap _ := V.pick h1 (V.pick h2 (V.pick h3 Val.nil))
  walk_at "m_fill"
  refine wpAny_call ?_
  k_dflt (refine' enterR (binds := [(Str.ofString "v", .ref x), (Str.ofString "notes", nv)]) G st _ hvE ?k6 ?k7 ?k8 ?k9 ?kB ?_ ?c2 ?c3 ?c4 ?c5; walk_at "m_rest0")
  intro g L h0 tk0 F N X T stg S l1
  refine hideQ (Q := Q) (fun _ _ x => x) ?_
  intro Q9 hQ9
  replace hret := hideR hQ9 hret
  clear hQ9
  show (let e9 := envOf _ _ _ _ _; wpAny _ (Around.deeper _ e9) (execs _ e9) _ _ _)
  intro e9
  (try k_lt l1)
  (try dsimp only)
  (try k_fold)
  k_steps
  (try unfold Stop)
  refine go0 (unary_ctr G (V.keep (by walk_at "m_keep")) ox hk) (by assumption) (by assumption) (by assumption) ⟨by walk_at "m_room", by walk_at "m_room"⟩ ?_
  intro rr1 hh1 tk1 kp1 ps1 F1 N1
  subst ps1
  k_steps
  rename Fr _ _ _ _ => Fw
  rename News _ _ _ _ => Nw
  rename_i D c9 hA9 FA9 NA9 lA9 rx' rdx t1' t2' t3' t4' t5' h1' tk' l1' l2'
  have kp0 : KeepBut [] s.heap _ := keep_now S hvE Fw Nw [] (by intro p hp _; k_ownIn)
  have fl : s.heap.get? D = none := by walk_at "m_fresh"
  have fx : s.heap.get? rx' = none := by walk_at "m_fresh"
  have fz : s.heap.get? rdx = none := by walk_at "m_fresh"
  refine keepall_ctr G (V.keep kp0) ox hd (Val.pick (val_now stg Nw) (.head _) (Val.pick (val_now stg Nw) (.tail _ (.head _)) Val.nil)) l2' (fun p hp e => by have := (V p hp).1; rw [e, fz] at this; cases this) hkv _ _ _ _ _ _ _ rfl (stays_now stg Fw) (by walk_at "m_room") (by walk_at "m_room") ?_
  intro rr5 hh5 tk5 kp5 ps5
  first | (revert ps5; revert rr5; refine y0_1 ?_; intro qq5) | obtain ⟨rfl, qq5⟩ := ps5
  first | (refine x1_2 (qq5) ?_; intro d hd5 qr5; clear qq5) | obtain ⟨d, hd5, qr5⟩ := qq5
  obtain ⟨od, fd, gd', hod, lo⟩ := qr5
  have U := upd_back (pre := [(rx', instObj 257 rdx)]) Fw Nw kp5 hd5 (fun p hp => by rw [List.mem_singleton.mp hp]; exact Nat.ne_of_gt l2') (by walk_at "m_nes")
  have N5 := U.2
  have F5 := U.1
  clear Nw Fw U
  simp only [List.cons_append, List.nil_append] at N5
  (try dsimp only)
  exact hret _ _ _ (by walk_at "m_keep") ⟨rx', rdx, D, d, t1', t2', t3', t4', t5', _, its, c9, rfl, nx, faC (⟨fx, by walk_at "m_got"⟩) (faC (⟨fz, by walk_at "m_got"⟩) (faC (⟨fl, by walk_at "m_got"⟩) (List.forall_mem_nil _))), ints_cell hi, od, fresh_kp kp0 fd, gd', hod, lo⟩
end
local macro_rules | `(tactic| walk_at "m_none26") => `(tactic| skip)
theorem fresh_C22 : True := by
  w_top off
  trivial
section
variable {w : World} {loose : List Str} {mean : ExcName → Option Value} {mg mb : Str → Option Value} {H₀ H : Heap}

local macro_rules | `(tactic| walk_at "exec Assign cons ListComp") => `(tactic| walk_at "m_compA")
local macro_rules | `(tactic| walk_at "eval ListComp") => `(tactic| refine Stop.go ?_)

set_option maxHeartbeats 600000 in
theorem not_int (G : Gr w loose mean mg mb H₀) {l : List (Addr × Obj)} {x ad : Addr} {its : List Value} {xs : List Int} {kvs : List (Str × Value)} {N a b : Int} {ox' : Option Addr} {hs : List (Str × Value)} (V : Val H₀ H l) (ox : Vec w l x sI its (.ref ad)) (hA : DimA w l (.ref ad) a b hs) (dx : DnOf w l (.ref ad) ox') (hi : IntsAre its xs) (nx : (its.length : Int) = N) (hkv : kvs.length < 10)
    (hN : a * b = N) (hN1 : 1 ≤ N) (hb : N < 100) (ha : 1 ≤ a ∧ a ≤ 3) (hb' : 1 ≤ b ∧ b ≤ 3) :
    Ctr w H₀ 466 [.ref x] 20 200 H [] (fun h' r => ResOf w H h' sL N a b (dnRow ox' ox') r) := by
  obtain ⟨dx', t1, t2, t3, t4, t5, tq, lx, n', h1, h2, h3⟩ := id ox
  intro dp un fr gd s Q E eH st hdp hun hret
  subst eH
  have hvE : Val H₀ s.heap _ := V.pick h1 (V.pick h2 Val.nil)
  walk_at "m_fill"
  refine wpAny_call ?_
  k_dflt (refine' enterR (binds := [(Str.ofString "v", .ref x)]) G st _ hvE ?k6 ?k7 ?k8 ?k9 ?kB ?_ ?c2 ?c3 ?c4 ?c5; walk_at "m_rest0")
  intro g L h0 tk0 F N X T stg S l1
  refine hideQ (Q := Q) (fun _ _ x => x) ?_
  intro Q9 hQ9
  replace hret := hideR hQ9 hret
  clear hQ9
  show (let e9 := envOf _ _ _ _ _; wpAny _ (Around.deeper _ e9) (execs _ e9) _ _ _)
  intro e9
  (try k_lt l1)
  (try dsimp only)
  (try k_fold)
  k_steps
  unfold Stop
  walk_at "m_comp"
  k_steps
  (try unfold Stop)
  refine go0 (truths_ctr G (V.keep (by walk_at "m_keep")) ox (.inl rfl) hi (by omega)) (by assumption) (by assumption) (by assumption) ⟨by walk_at "m_room", by walk_at "m_room"⟩ ?_
  intro rr1 hh1 tk1 kp1 ps1 F1 N1
  first | (revert ps1; revert rr1; refine y3_4 ?_; intro l1' zs c f1 g1 e1 hz1) | obtain ⟨l1', zs, c, rfl, f1, g1, e1, hz1⟩ := ps1
  have N1' := news_cons (by assumption) f1 g1 N1
  clear N1
  k_steps
  unfold Stop
  rename Fr _ _ _ _ => F2
  rename News _ _ _ _ => N2
  refine LCg.CompSrc.ledger (by rfl) F2 N2 (by k_mem) (by walk_at "m_lsize") ?_
  intro g'
  refine comp_inv zs.toArray.size (fun i ys nx => nx = _ ∧ ys.length = i ∧ ∀ z ∈ ys, Cell z) ?_ ?_ _ 0 [] _ (Nat.zero_add _) ⟨rfl, rfl, fun _ h => nomatch h⟩
  · intro i ys nx v I oI C oC D m2 h tk E' hi' hP qz0
    first | (revert qz0; revert nx; refine y0_2 ?_; intro ez hz) | obtain ⟨rfl, ez, hz⟩ := qz0
    intro hC hx F2 N2 off ne
    first | (refine x2_2 (hz1 v (List.mem_of_getElem? (by simpa using hP))) ?_; intro k tv e9z hk'; subst e9z) | obtain ⟨k, tv, rfl, hk'⟩ := hz1 v (List.mem_of_getElem? (by simpa using hP))
    have off' := off
    simp only [LCg.Off3, and_true] at off'
    k_steps
    (try unfold Stop)
    refine go0 (notitem_ctr G) (by assumption) (by assumption) (by assumption) ⟨by walk_at "m_room", by walk_at "m_room"⟩ ?_
    intro rr5 hh5 tk5 kp5 ps5 F5 N5
    k_steps
    unfold Stop
    refine comp_end (by assumption) (by assumption) (by walk_at "m_csub") off (by walk_at "m_csrc") ⟨rfl, by simp [ez], cells_snoc hz ps5⟩
  · intro ys nx qz0
    first | (revert qz0; revert nx; refine y0_2 ?_; intro ez hz) | obtain ⟨rfl, ez, hz⟩ := qz0
    simp only [List.size_toArray] at ez
    unfold LCg.FinE
    intro D h tk F2 N2 off
    have off' := off
    simp only [LCg.Off1, and_true] at off'
    have fl : s.heap.get? D = none := by walk_at "m_freshD"
    (try dsimp only)
    k_steps
    rename_i rx' rdx t1' t2' t3' t4' t5' h1' tk' l1' l2' h2' Fw Nw xx9
    have kp0 : KeepBut [] s.heap _ := keep_now S hvE Fw Nw [] (by intro p hp _; k_ownIn)
    have fx : s.heap.get? rx' = none := by walk_at "m_fresh"
    have fz : s.heap.get? rdx = none := by walk_at "m_fresh"
    refine shape_ctr G (V.keep kp0) ox ox (.inl rfl) (.inl rfl) nx nx (.mm rfl rfl hA hA) hN hN1 hb ha hb' dx dx (Val.pick (val_now stg Nw) (.head _) (Val.pick (val_now stg Nw) (.tail _ (.head _)) Val.nil)) l2' _ _ _ _ _ _ _ rfl (stays_now stg Fw) (by walk_at "m_room") (by walk_at "m_room") ?_
    intro rr5 hh5 tk5 kp5 ps5
    first | (revert ps5; revert rr5; refine y0_1 ?_; intro qq5) | obtain ⟨rfl, qq5⟩ := ps5
    first | (refine x1_2 (qq5) ?_; intro d hd qr5; clear qq5) | obtain ⟨d, hd, qr5⟩ := qq5
    obtain ⟨od, yv, dy', ly, u1, u2, u3, u4, u5, uk, ta, tb, nn, hnew, hod, lo⟩ := qr5
    have U := upd_back (pre := [(rx', instObj 257 rdx)]) Fw Nw kp5 hd (fun p hp => by rw [List.mem_singleton.mp hp]; exact Nat.ne_of_gt l2') (by walk_at "m_nes")
    have N5 := news_app Fw hnew U.2
    have F5 := U.1
    clear Nw Fw U
    simp only [List.cons_append, List.nil_append] at N5
    k_steps
    (try dsimp only)
    rename News _ _ _ _ => N6
    exact hret _ _ _ (by walk_at "m_keep") ⟨rx', rdx, D, d, t1', t2', t3', t4', t5', _, ys, ys.length, rfl, by omega, faC (⟨fx, by walk_at "m_got"⟩) (faC (⟨fz, by walk_at "m_got"⟩) (faC (⟨fl, by walk_at "m_got"⟩) (List.forall_mem_nil _))), hz,
      od, yv, dy', ly, u1, u2, u3, u4, u5, uk, ta, tb, nn, fun p hp => ⟨fresh_kp kp0 (hnew p hp).1, (N6 p (List.mem_append_left _ hp)).1⟩, hod, lo⟩
end
local macro_rules | `(tactic| walk_at "m_none27") => `(tactic| skip)
local macro_rules | `(tactic| walk_at "m_none28") => `(tactic| skip)
local macro_rules | `(tactic| walk_at "m_none29") => `(tactic| skip)
theorem fresh_C23 : True := by
  w_top off
  trivial
section
variable {w : World} {loose : List Str} {mean : ExcName → Option Value} {mg mb : Str → Option Value} {H₀ H : Heap}

local macro_rules | `(tactic| walk_at "exec Assign cons ListComp") => `(tactic| walk_at "m_compA")
local macro_rules | `(tactic| walk_at "eval ListComp") => `(tactic| refine Stop.go ?_)

set_option maxHeartbeats 600000 in
theorem not_log (G : Gr w loose mean mg mb H₀) {l : List (Addr × Obj)} {x ad : Addr} {its : List Value} {xs : List Int} {kvs : List (Str × Value)} {N : Int} (V : Val H₀ H l) (ox : Vec w l x sL its (.ref ad)) (hd : Dct w l ad kvs) (hi : IntsAre its xs) (nx : (its.length : Int) = N) (hkv : kvs.length < 10) (hb : N < 100) :
    Ctr w H₀ 466 [.ref x] 20 200 H [] (fun h' r => UnOf w H h' sL N kvs r) := by
  obtain ⟨dx', t1, t2, t3, t4, t5, tq, lx, n', h1, h2, h3⟩ := id ox
  intro dp un fr gd s Q E eH st hdp hun hret
  subst eH
  have hvE : Val H₀ s.heap _ := V.pick h1 (V.pick h2 Val.nil)
  walk_at "m_fill"
  refine wpAny_call ?_
  k_dflt (refine' enterR (binds := [(Str.ofString "v", .ref x)]) G st _ hvE ?k6 ?k7 ?k8 ?k9 ?kB ?_ ?c2 ?c3 ?c4 ?c5; walk_at "m_rest0")
  intro g L h0 tk0 F N X T stg S l1
  refine hideQ (Q := Q) (fun _ _ x => x) ?_
  intro Q9 hQ9
  replace hret := hideR hQ9 hret
  clear hQ9
  show (let e9 := envOf _ _ _ _ _; wpAny _ (Around.deeper _ e9) (execs _ e9) _ _ _)
  intro e9
  (try k_lt l1)
  (try dsimp only)
  (try k_fold)
  k_steps
  unfold Stop
  walk_at "m_comp"
  k_steps
  (try unfold Stop)
  refine go0 (truths_ctr G (V.keep (by walk_at "m_keep")) ox (.inr rfl) hi (by omega)) (by assumption) (by assumption) (by assumption) ⟨by walk_at "m_room", by walk_at "m_room"⟩ ?_
  intro rr1 hh1 tk1 kp1 ps1 F1 N1
  first | (revert ps1; revert rr1; refine y3_4 ?_; intro l1' zs c f1 g1 e1 hz1) | obtain ⟨l1', zs, c, rfl, f1, g1, e1, hz1⟩ := ps1
  have N1' := news_cons (by assumption) f1 g1 N1
  clear N1
  k_steps
  unfold Stop
  rename Fr _ _ _ _ => F2
  rename News _ _ _ _ => N2
  refine LCg.CompSrc.ledger (by rfl) F2 N2 (by k_mem) (by walk_at "m_lsize") ?_
  intro g'
  refine comp_inv zs.toArray.size (fun i ys nx => nx = _ ∧ ys.length = i ∧ ∀ z ∈ ys, Cell z) ?_ ?_ _ 0 [] _ (Nat.zero_add _) ⟨rfl, rfl, fun _ h => nomatch h⟩
  · intro i ys nx v I oI C oC D m2 h tk E' hi' hP qz0
    first | (revert qz0; revert nx; refine y0_2 ?_; intro ez hz) | obtain ⟨rfl, ez, hz⟩ := qz0
    intro hC hx F2 N2 off ne
    first | (refine x2_2 (hz1 v (List.mem_of_getElem? (by simpa using hP))) ?_; intro k tv e9z hk'; subst e9z) | obtain ⟨k, tv, rfl, hk'⟩ := hz1 v (List.mem_of_getElem? (by simpa using hP))
    have off' := off
    simp only [LCg.Off3, and_true] at off'
    k_steps
    (try unfold Stop)
    refine go0 (notitem_ctr G) (by assumption) (by assumption) (by assumption) ⟨by walk_at "m_room", by walk_at "m_room"⟩ ?_
    intro rr5 hh5 tk5 kp5 ps5 F5 N5
    k_steps
    unfold Stop
    refine comp_end (by assumption) (by assumption) (by walk_at "m_csub") off (by walk_at "m_csrc") ⟨rfl, by simp [ez], cells_snoc hz ps5⟩
  · intro ys nx qz0
    first | (revert qz0; revert nx; refine y0_2 ?_; intro ez hz) | obtain ⟨rfl, ez, hz⟩ := qz0
    simp only [List.size_toArray] at ez
    unfold LCg.FinE
    intro D h tk F2 N2 off
    have off' := off
    simp only [LCg.Off1, and_true] at off'
    have fl : s.heap.get? D = none := by walk_at "m_freshD"
    (try dsimp only)
    k_steps
    rename_i rx' rdx t1' t2' t3' t4' t5' h1' tk' l1' l2' h2' Fw Nw xx9
    have kp0 : KeepBut [] s.heap _ := keep_now S hvE Fw Nw [] (by intro p hp _; k_ownIn)
    have fx : s.heap.get? rx' = none := by walk_at "m_fresh"
    have fz : s.heap.get? rdx = none := by walk_at "m_fresh"
    refine keepall_ctr G (V.keep kp0) ox hd (Val.pick (val_now stg Nw) (.head _) (Val.pick (val_now stg Nw) (.tail _ (.head _)) Val.nil)) l2' (fun p hp e => by have := (V p hp).1; rw [e, fz] at this; cases this) hkv _ _ _ _ _ _ _ rfl (stays_now stg Fw) (by walk_at "m_room") (by walk_at "m_room") ?_
    intro rr5 hh5 tk5 kp5 ps5
    first | (revert ps5; revert rr5; refine y0_1 ?_; intro qq5) | obtain ⟨rfl, qq5⟩ := ps5
    first | (refine x1_2 (qq5) ?_; intro d hd5 qr5; clear qq5) | obtain ⟨d, hd5, qr5⟩ := qq5
    obtain ⟨od, fd, gd', hod, lo⟩ := qr5
    have U := upd_back (pre := [(rx', instObj 257 rdx)]) Fw Nw kp5 hd5 (fun p hp => by rw [List.mem_singleton.mp hp]; exact Nat.ne_of_gt l2') (by walk_at "m_nes")
    have N5 := U.2
    have F5 := U.1
    clear Nw Fw U
    simp only [List.cons_append, List.nil_append] at N5
    (try dsimp only)
    exact hret _ _ _ (by walk_at "m_keep") ⟨rx', rdx, D, d, t1', t2', t3', t4', t5', _, ys, ys.length, rfl, by omega, faC (⟨fx, by walk_at "m_got"⟩) (faC (⟨fz, by walk_at "m_got"⟩) (faC (⟨fl, by walk_at "m_got"⟩) (List.forall_mem_nil _))), hz, od, fresh_kp kp0 fd, gd', hod, lo⟩
end
local macro_rules | `(tactic| walk_at "m_none30") => `(tactic| skip)
local macro_rules | `(tactic| walk_at "m_none31") => `(tactic| skip)
local macro_rules | `(tactic| walk_at "m_none32") => `(tactic| skip)
theorem fresh_View : True := by
  w_top off
  trivial
/-- the pairs of a row of attributes: none, or a dict of the ledger's -/
def RowAt (w : World) (l : List (Addr × Obj)) (av : Value) (kvs : List (Str × Value)) : Prop := (av = .none ∧ kvs = []) ∨ ∃ d, av = .ref d ∧ Dct w l d kvs
theorem RowAt.mono {w : World} {l l' : List (Addr × Obj)} {av : Value} {kvs : List (Str × Value)} (h : RowAt w l av kvs) (hs : ∀ p ∈ l, p ∈ l') : RowAt w l' av kvs := h.elim .inl fun ⟨d, e, hd⟩ => .inr ⟨d, e, hd.mono hs⟩
/-- what `_law_view` makes V of, over the ledger l -/
inductive SrcOf (w : World) (l : List (Addr × Obj)) : Nat → Value → VD → Prop where
  | null {n : Nat} {x dx : Addr} {t1 t2 tk : Tok} : (x, instObj 228 dx) ∈ l → (dx, ndict w t1 t2 tk) ∈ l → SrcOf w l n (.ref x) (.str (Str.ofString "NULL"))
  | vec {n : Nat} {x : Addr} {kd : Str} {its : List Value} {av : Value} {Xs : List VD} {kvs : List (Str × Value)} {As : List (Str × VD)} : Vec w l x kd its av → (kd = sI ∨ kd = sL ∨ kd = sC) → its.length = Xs.length → its.length < 100 →
      (∀ (j : Nat) (h : j < its.length) (h' : j < Xs.length), ViewOf w [] 0 its[j] Xs[j]) → RowAt w l av kvs → kvs.length < 10 → kvs.map (·.1) = As.map (·.1) → (∀ (j : Nat) (h : j < kvs.length) (h' : j < As.length), SrcOf w l n kvs[j].2 As[j].2) →
      SrcOf w l (n + 1) (.ref x) (.tup [.str kd, .lst Xs, .dct As])
  | lst {n : Nat} {x : Addr} {its : List Value} {av : Value} {Xs : List VD} {kvs : List (Str × Value)} {As : List (Str × VD)} : Vec w l x sX its av → its.length = Xs.length → its.length < 100 →
      (∀ (j : Nat) (h : j < its.length) (h' : j < Xs.length), SrcOf w l n its[j] Xs[j]) → RowAt w l av kvs → kvs.length < 10 → kvs.map (·.1) = As.map (·.1) → (∀ (j : Nat) (h : j < kvs.length) (h' : j < As.length), SrcOf w l n kvs[j].2 As[j].2) →
      SrcOf w l (n + 1) (.ref x) (.tup [.str sX, .lst Xs, .dct As])
theorem SrcOf.mono {w : World} {l l' : List (Addr × Obj)} {n : Nat} {v : Value} {V : VD} (h : SrcOf w l n v V) (hs : ∀ p ∈ l, p ∈ l') : SrcOf w l' n v V := by
  induction h with
  | null h1 h2 => exact .null (hs _ h1) (hs _ h2)
  | vec h1 h2 h3 h4 h5 h6 h7 h8 _ ih => exact .vec (h1.mono hs) h2 h3 h4 h5 (h6.mono hs) h7 h8 ih
  | lst h1 h2 h3 _ h5 h6 h7 _ ih1 ih2 => exact .lst (h1.mono hs) h2 h3 ih1 (h5.mono hs) h6 h7 ih2
theorem SrcOf.up {w : World} {l : List (Addr × Obj)} {n m : Nat} {v : Value} {V : VD} (h : SrcOf w l n v V) (hn : n ≤ m) : SrcOf w l m v V := by
  induction h generalizing m with
  | null h1 h2 => exact .null h1 h2
  | vec h1 h2 h3 h4 h5 h6 h7 h8 _ ih => obtain ⟨k, rfl, hk⟩ := ge_succ hn; exact .vec h1 h2 h3 h4 h5 h6 h7 h8 fun j h h' => ih j h h' hk
  | lst h1 h2 h3 _ h5 h6 h7 _ ih1 ih2 => obtain ⟨k, rfl, hk⟩ := ge_succ hn; exact .lst h1 h2 h3 (fun j h h' => ih1 j h h' hk) h5 h6 h7 fun j h h' => ih2 j h h' hk

/-- what a call has made shows V -/
inductive Shown (w : World) (H h' : Heap) (n : Nat) (r : Value) (V : VD) : Prop where
  | mk (tl : List (Addr × Obj)) (h1 : ∀ p ∈ tl, H.get? p.1 = none ∧ h'.get? p.1 = some p.2) (h2 : ViewOf w tl n r V) : Shown w H h' n r V
/-- the contract of a view -/
def ViewC (w : World) (H₀ : Heap) (n : Nat) : Prop := ∀ (l : List (Addr × Obj)) (v : Value) (V : VD), SrcOf w l n v V → ∀ (H : Heap), Val H₀ H l → Ctr w H₀ 485 [v] (4 * n + 4) (40 * n + 40) H [] (fun h' r => Shown w H h' (2 * n) r V)

theorem shown_node {w : World} {tl : List (Addr × Obj)} {T Ld Dd : Addr} {kd : Str} {tq : Tok} {its : List Value} {Xs : List VD} {c n : Nat} {od : Obj} {kvs : List (Str × Value)} {As : List (Str × VD)} (hT : (T, tupObj [.str kd tq, .ref Ld, .ref Dd]) ∈ tl) (hL : (Ld, listOf its.toArray c) ∈ tl) (hD : (Dd, od) ∈ tl)
    (hod : od.IsDictOf (PySem.strKind PG w) kvs) (lo : (Dd == sysModules) = false) (hlen : its.length = Xs.length) (hX : ∀ (j : Nat) (h : j < its.length) (h' : j < Xs.length), ViewOf w tl n its[j] Xs[j]) (hk : kvs.map (·.1) = As.map (·.1)) (hA : ∀ (j : Nat) (h : j < kvs.length) (h' : j < As.length), ViewOf w tl n kvs[j].2 As[j].2) :
    ViewOf w tl (n + 2) (.ref T) (.tup [.str kd, .lst Xs, .dct As]) := by
  refine .tup hT rfl fun j h h' => ?_
  match j, h, h' with
  | 0, _, _ => exact .str _ _
  | 1, _, _ => exact .lst hL hlen hX
  | 2, _, _ => exact .dct hD hod lo hk hA
  | j + 3, h, _ => exact absurd h (by simp)
theorem off3_new {h : Heap} {g : Heap} {L I C D : Addr} {oI oC oD : Obj} {nx tl : List (Addr × Obj)} (N : News g L h ((I, oI) :: (C, oC) :: (D, oD) :: nx)) (hf : ∀ p ∈ tl, h.get? p.1 = none) (off : LCg.Off3 I C D nx) : LCg.Off3 I C D (tl ++ nx) :=
  LCg.Off3.of fun p hp => by
    rcases List.mem_append.mp hp with hp | hp
    · have e := hf p hp
      refine ⟨?_, ?_, ?_⟩ <;> rintro rfl
      · rw [(N (p.1, oI) (.head _)).1] at e; cases e
      · rw [(N (p.1, oC) (.tail _ (.head _))).1] at e; cases e
      · rw [(N (p.1, oD) (.tail _ (.tail _ (.head _)))).1] at e; cases e
    · exact off.mem p hp
theorem news_turn {g h h' : Heap} {L I C D : Addr} {m : Str → Option Value} {oI oC oD : Obj} {nx tl : List (Addr × Obj)} (F : Fr g L h m) (hf : ∀ p ∈ tl, h.get? p.1 = none ∧ h'.get? p.1 = some p.2) (N : News g L h' ((I, oI) :: (C, oC) :: (D, oD) :: nx)) :
    News g L h' ((I, oI) :: (C, oC) :: (D, oD) :: (tl ++ nx)) := fun p hp => by
  have N1 := news_app F hf N
  rcases List.mem_cons.mp hp with rfl | hp
  · exact N _ (.head _)
  rcases List.mem_cons.mp hp with rfl | hp
  · exact N _ (.tail _ (.head _))
  rcases List.mem_cons.mp hp with rfl | hp
  · exact N _ (.tail _ (.tail _ (.head _)))
  rcases List.mem_append.mp hp with hp | hp
  · exact N1 p (List.mem_append_left _ hp)
  · exact N p (.tail _ (.tail _ (.tail _ hp)))
theorem news_mid {g h : Heap} {L : Addr} {x y z : Addr × Obj} {tl l : List (Addr × Obj)} (N : News g L h (x :: y :: z :: (tl ++ l))) : News g L h (x :: y :: z :: l) :=
  news_sub N (faC (.head _) (faC (.tail _ (.head _)) (faC (.tail _ (.tail _ (.head _))) fun p hp => .tail _ (.tail _ (.tail _ (List.mem_append_right _ hp))))))
theorem news_flip {g h : Heap} {L : Addr} {x : Addr × Obj} {tl l : List (Addr × Obj)} (N : News g L h (x :: (tl ++ l))) : News g L h ((x :: l) ++ tl) :=
  news_sub N (faC (.head _) fun p hp => .tail _ ((List.mem_append.mp hp).elim (List.mem_append_right _) (List.mem_append_left _)))
section
variable {w : World} {loose : List Str} {mean : ExcName → Option Value} {mg mb : Str → Option Value} {H₀ H : Heap}
set_option maxHeartbeats 600000 in
theorem view_null (G : Gr w loose mean mg mb H₀) {l : List (Addr × Obj)} {x dx : Addr} {t1 t2 tk : Tok} {n : Nat} (V : Val H₀ H l) (h1 : (x, instObj 228 dx) ∈ l) (h2 : (dx, ndict w t1 t2 tk) ∈ l) :
    Ctr w H₀ 485 [.ref x] 4 40 H [] (fun h' r => Shown w H h' n r (.str (Str.ofString "NULL"))) := by
  intro dp un fr gd s Q E eH st hdp hun hret
  subst eH
  have hvE : Val H₀ s.heap _ := V.pick h1 (V.pick h2 Val.nil)
  walk_at "m_fill"
  refine wpAny_call ?_
  k_dflt (refine' enterC (binds := [(Str.ofString "v", .ref x)]) G st _ hvE ?k6 ?k7 ?k8 ?k9 ?kB ?kD ?_ ?c2 ?c3 ?c4; walk_at "m_restC")
  intro g L h0 tk0 cells F N Y X T stg S l1
  refine hideQ (Q := Q) (fun _ _ x => x) ?_
  intro Q9 hQ9
  replace hret := hideR hQ9 hret
  clear hQ9
  show (let e9 := envOfC _ _ _ _ _; wpAny _ (Around.deeper _ e9) (execs _ e9) _ _ _)
  intro e9
  (try k_lt l1)
  k_cells Y
  (try simp only [List.cons_append, List.nil_append] at N)
  (try dsimp only)
  (try k_fold)
  k_steps
  (try dsimp only)
  exact hret _ _ _ (by walk_at "m_keep") ⟨[], (fun _ h => nomatch h), .str _ _⟩

end
local macro_rules | `(tactic| walk_at "subscriptTail Attribute") => `(tactic| (k_here; k_dflt (refine kdt_tail (knd := PySem.strKind _ _) (by k_asm) (by k_mem) (by k_asm) ?_)))
local macro_rules | `(tactic| walk_at "exec Assign cons DictComp") => `(tactic| refine Stop.go ?_)
local macro_rules | `(tactic| walk_at "DSrc") => `(tactic| refine Stop.go ?_)
theorem fresh_V1 : True := by
  w_top off
  trivial
section
variable {w : World} {loose : List Str} {mean : ExcName → Option Value} {mg mb : Str → Option Value} {H₀ H : Heap}
local macro_rules | `(tactic| walk_at "eval ListComp") => `(tactic| refine Stop.go ?_)
set_option maxHeartbeats 600000 in
theorem view_vec0 (G : Gr w loose mean mg mb H₀) {l : List (Addr × Obj)} {x : Addr} {kd : Str} {its : List Value} {Xs : List VD} {n : Nat} (V : Val H₀ H l) (ox : Vec w l x kd its .none) (hk : kd = sI ∨ kd = sL ∨ kd = sC) (hlen : its.length = Xs.length) (hn : its.length < 100)
    (hX : ∀ (j : Nat) (h : j < its.length) (h' : j < Xs.length), ViewOf w [] 0 its[j] Xs[j]) :
    Ctr w H₀ 485 [.ref x] 4 40 H [] (fun h' r => Shown w H h' (n + 2) r (.tup [.str kd, .lst Xs, .dct []])) := by
  obtain ⟨dx, t1, t2, t3, t4, t5, tq, lx, n', h1, h2, h3⟩ := id ox
  have k0 : (kd == Str.ofString "NULL") = false := by rcases hk with rfl | rfl | rfl <;> decide
  have kn : ([Str.ofString "list", Str.ofString "expression", Str.ofString "pairlist"].any fun x => x == kd) = false := by rcases hk with rfl | rfl | rfl <;> decide
  intro dp un fr gd s Q E eH st hdp hun hret
  subst eH
  have hvE : Val H₀ s.heap _ := V.pick h1 (V.pick h2 (V.pick h3 Val.nil))
  walk_at "m_fill"
  refine wpAny_call ?_
  k_dflt (refine' enterC (binds := [(Str.ofString "v", .ref x)]) G st _ hvE ?k6 ?k7 ?k8 ?k9 ?kB ?kD ?_ ?c2 ?c3 ?c4; walk_at "m_restC")
  intro g L h0 tk0 cells F N Y X T stg S l1
  refine hideQ (Q := Q) (fun _ _ x => x) ?_
  intro Q9 hQ9
  replace hret := hideR hQ9 hret
  clear hQ9
  show (let e9 := envOfC _ _ _ _ _; wpAny _ (Around.deeper _ e9) (execs _ e9) _ _ _)
  intro e9
  (try k_lt l1)
  k_cells Y
  (try simp only [List.cons_append, List.nil_append] at N)
  (try dsimp only)
  (try k_fold)
  k_steps
  rename_i dd h4 od lo hs fs hi' fi l3 h3' _ tk9 D2 h2' l2 Ld c hB lB T' hA Fw Nw lW
  (try dsimp only)
  exact hret _ _ _ (keep_now S hvE Fw Nw [] (by intro p hp _; k_ownIn)) ⟨[(T', tupObj [.str kd tq, .ref Ld, .ref dd]), (Ld, listOf its.toArray c), (dd, od)], by walk_at "m_new", shown_node (.head _) (.tail _ (.head _)) (.tail _ (.tail _ (.head _))) hs lo hlen
    (fun j h h' => ((hX j h h').mono (fun _ h => nomatch h)).up (Nat.zero_le _)) rfl (fun j h => absurd h (Nat.not_lt_zero _))⟩
end
local macro_rules | `(tactic| walk_at "m_none33") => `(tactic| skip)
local macro_rules | `(tactic| walk_at "m_none34") => `(tactic| skip)
theorem fresh_V2 : True := by
  w_top off
  trivial
/-- a fact kept out of the walk's sight -/
structure Hid (p : Prop) : Prop where
  out : p
theorem views_snoc {w : World} {tl5 tl : List (Addr × Obj)} {m i : Nat} {ys : List (Str × Value)} {As : List (Str × VD)} {k : Str} {y : Value} (hv : ∀ (j : Nat) (h : j < ys.length) (h' : j < As.length), ViewOf w tl m ys[j].2 As[j].2) (hlen : ys.length = i) (h5 : ∀ (h : i < As.length), ViewOf w tl5 m y As[i].2) :
    ∀ (j : Nat) (h : j < (ys ++ [(k, y)]).length) (h' : j < As.length), ViewOf w (tl5 ++ tl) m (ys ++ [(k, y)])[j].2 As[j].2 := fun j h h' => by
  rw [List.length_append, List.length_singleton] at h
  rcases Nat.lt_or_ge j ys.length with hj | hj
  · rw [List.getElem_append_left hj]; exact (hv j hj h').mono fun p hp => List.mem_append_right _ hp
  · obtain rfl : j = i := hlen ▸ Nat.le_antisymm (Nat.le_of_lt_succ h) hj
    rw [List.getElem_append_right hj]
    simp only [hlen, Nat.sub_self, List.getElem_cons_zero]
    exact (h5 h').mono fun p hp => List.mem_append_left _ hp
section
variable {w : World} {loose : List Str} {mean : ExcName → Option Value} {mg mb : Str → Option Value} {H₀ H : Heap}
local macro_rules | `(tactic| walk_at "getItem ref") => `(tactic| refine Stop.go ?_)
local macro_rules | `(tactic| walk_at "eval ListComp") => `(tactic| refine Stop.go ?_)
set_option maxHeartbeats 600000 in
theorem view_vecD (G : Gr w loose mean mg mb H₀) {n : Nat} (IH : ViewC w H₀ n) {l : List (Addr × Obj)} {x d : Addr} {kd : Str} {its : List Value} {Xs : List VD} {kvs : List (Str × Value)} {As : List (Str × VD)} (V : Val H₀ H l) (ox : Vec w l x kd its (.ref d)) (hk : kd = sI ∨ kd = sL ∨ kd = sC) (hlen : its.length = Xs.length) (hn : its.length < 100)
    (hX : ∀ (j : Nat) (h : j < its.length) (h' : j < Xs.length), ViewOf w [] 0 its[j] Xs[j]) (hd : Dct w l d kvs) (hkv : kvs.length < 10) (hkk : kvs.map (·.1) = As.map (·.1)) (hA : ∀ (j : Nat) (h : j < kvs.length) (h' : j < As.length), SrcOf w l n kvs[j].2 As[j].2) :
    Ctr w H₀ 485 [.ref x] (4 * (n + 1) + 4) (40 * (n + 1) + 40) H [] (fun h' r => Shown w H h' (2 * (n + 1)) r (.tup [.str kd, .lst Xs, .dct As])) := by
  obtain ⟨dx, t1, t2, t3, t4, t5, tq, lx, n', h1, h2, h3⟩ := id ox
  obtain ⟨od, hd1, hod, lo⟩ := id hd
  have hnd : (kvs.map (·.1)).Nodup := dict_nodup hod
  have hAl : As.length = kvs.length := by simpa using (congrArg List.length hkk).symm
  have k0 : (kd == Str.ofString "NULL") = false := by rcases hk with rfl | rfl | rfl <;> decide
  have kn : ([Str.ofString "list", Str.ofString "expression", Str.ofString "pairlist"].any fun x => x == kd) = false := by rcases hk with rfl | rfl | rfl <;> decide
  intro dp un fr gd s Q E eH st hdp hun hret
  subst eH
  have hvE : Val H₀ s.heap _ := V.pick h1 (V.pick h2 (V.pick h3 (V.pick hd1 Val.nil)))
  walk_at "m_fill"
  refine wpAny_call ?_
  k_dflt (refine' enterC (binds := [(Str.ofString "v", .ref x)]) G st _ hvE ?k6 ?k7 ?k8 ?k9 ?kB ?kD ?_ ?c2 ?c3 ?c4; walk_at "m_restC")
  intro g L h0 tk0 cells F N Y X T stg S l1
  refine hideQ (Q := Q) (fun _ _ x => x) ?_
  intro Q9 hQ9
  replace hret := hideR hQ9 hret
  clear hQ9
  show (let e9 := envOfC _ _ _ _ _; wpAny _ (Around.deeper _ e9) (execs _ e9) _ _ _)
  intro e9
  (try k_lt l1)
  k_cells Y
  (try simp only [List.cons_append, List.nil_append] at N)
  (try dsimp only)
  (try k_fold)
  k_steps
  unfold Stop
  refine dcomp_assign (L := L) (PySem.strKind PG w) (by assumption) rfl (by with_unfolding_all rfl) (by with_unfolding_all rfl) (by decide) (by rfl) (by decide) (by rfl) (by rfl) (by rfl) ?_
  k_steps
  unfold Stop
  rename Fr _ _ _ _ => F2
  rename News _ _ _ _ => N2
  refine ⟨d, od, kvs, _, fun i ys nx => ∃ tl, nx = tl ++ _ ∧ (∀ p ∈ tl, s.heap.get? p.1 = none) ∧ ys.map (·.1) = (kvs.take i).map (·.1) ∧ ∀ (j : Nat) (h : j < ys.length) (h' : j < As.length), ViewOf w tl (2 * n) ys[j].2 As[j].2, rfl, rfl, F2, N2, hod, lo, T.nolimit, by rw [PySem.sizeLine_eq]; omega, ?_, ⟨[], rfl, (fun _ h => nomatch h), rfl, (fun _ h => absurd h (Nat.not_lt_zero _))⟩, ?_, ?_⟩
  · intro i ys nx qz0
    first | (revert qz0; revert nx; refine y1_1 ?_; intro tl zz2; clear zz2) | obtain ⟨tl, rfl, -⟩ := qz0
    exact List.mem_append_right _ (by k_mem)
  · intro i k y₀ v ys nx I oI C oC D oD m₂ h tk E' hik hkv' qz0
    first | (revert qz0; revert nx; refine y1_3 ?_; intro tl hf hyk hv) | obtain ⟨tl, rfl, hf, hyk, hv⟩ := qz0
    intro hC hx F3 N3 off ne
    first | (refine x1_1 (Value.isStrOf_shape hkv') ?_; intro t e9z; subst e9z) | obtain ⟨t, rfl⟩ := Value.isStrOf_shape hkv'
    clear F2 N2
    have N3h : Hid (News g L h ((I, oI) :: (C, oC) :: (D, oD) :: (tl ++ _))) := ⟨N3⟩
    have N4 := news_mid N3
    have offh : Hid (LCg.Off3 I C D (tl ++ _)) := ⟨off⟩
    clear N3 off
    obtain ⟨hil, hie⟩ := List.getElem?_eq_some_iff.mp hik
    have hyl : ys.length = i := take_len hyk hil
    k_steps
    unfold Stop
    refine kdt_getItem (knd := PySem.strKind _ _) N4 (by k_mem) hod (strKind_is _ _ _ _) (by have := valueAt_at hnd hil; rw [hie] at this; exact this) ?_
    k_steps
    have kp0 : KeepBut [] s.heap h := keep_now S hvE F3 N4 [] (by intro p hp _; k_ownIn)
    have hsrc : SrcOf w l n y₀ (As[i]'(by omega)).2 := by have := hA i hil (by omega); rw [hie] at this; exact this
    (try unfold Stop)
    refine go0 (IH l _ _ hsrc _ (V.keep kp0)) (by assumption) (by assumption) (by assumption) ⟨by walk_at "m_room", by walk_at "m_room"⟩ ?_
    intro rr5 hh5 tk5 kp5 ps5 F5 N5
    obtain ⟨tl5, hf5, hv5⟩ := ps5
    exact LCg.CompEnd.intro F5 (news_turn F3 hf5 (news_back0 N3h.out kp5)) (tl5 ++ (tl ++ _)) (fun _ hp => hp) (off3_new N3h.out (fun p hp => (hf5 p hp).1) offh.out) (trivial) (i1_4 (tl5 ++ tl) ((List.append_assoc _ _ _).symm) (fun p hp => (List.mem_append.mp hp).elim (fun hp => fresh_kp kp0 (hf5 p hp).1) (hf p)) (by rw [List.map_append, hyk, List.take_add_one, hik, List.map_append]; rfl) (views_snoc hv hyl fun _ => hv5))
  · intro ys nx D oD h' tk' qz0
    first | (revert qz0; revert nx; refine y1_3 ?_; intro tl hf hyk hv) | obtain ⟨tl, rfl, hf, hyk, hv⟩ := qz0
    intro F3 N3 off hoD loD
    clear F2 N2
    have N4 := news_flip N3
    simp only [List.cons_append, List.nil_append] at N4
    have offh : Hid (LCg.Off1 D (tl ++ _)) := ⟨off⟩
    have fD : s.heap.get? D = none := fresh_off S N3 off (by intro p hp; refine List.mem_append_right _ ?_; k_ownIn)
    clear N3 off
    k_steps
    rename_i D2 h2' l2 Ld c hB lB T' hA' Fw Nw lW
    (try dsimp only)
    rw [List.take_length] at hyk
    exact hret _ _ _ (keep_now S hvE Fw Nw [] (by repeat (first | exact List.forall_mem_nil _ | refine faC (fun _ => by k_mem) (?_)))) ⟨(T', tupObj [.str kd tq, .ref Ld, .ref D]) :: (Ld, listOf its.toArray c) :: (D, oD) :: tl,
      faC (⟨by walk_at "m_fresh", by walk_at "m_got"⟩) (faC (⟨by walk_at "m_fresh", by walk_at "m_got"⟩) (faC (⟨fD, by walk_at "m_got"⟩) (fun p hp => ⟨hf p hp, (Nw p (by repeat (first | (with_reducible exact hp) | apply List.mem_cons_of_mem))).1⟩))),
      shown_node (.head _) (.tail _ (.head _)) (.tail _ (.tail _ (.head _))) hoD loD hlen
      (fun j h h' => ((hX j h h').mono (fun _ h => nomatch h)).up (Nat.zero_le _)) (hyk.trans hkk) (fun j h h' => (hv j h h').mono fun p hp => .tail _ (.tail _ (.tail _ hp)))⟩
end
local macro_rules | `(tactic| walk_at "m_none35") => `(tactic| skip)
local macro_rules | `(tactic| walk_at "m_none36") => `(tactic| skip)
local macro_rules | `(tactic| walk_at "m_none37") => `(tactic| skip)
theorem fresh_V3 : True := by
  w_top off
  trivial
theorem views_snocL {w : World} {tl5 tl : List (Addr × Obj)} {m i : Nat} {ys : List Value} {As : List VD} {y : Value} (hv : ∀ (j : Nat) (h : j < ys.length) (h' : j < As.length), ViewOf w tl m ys[j] As[j]) (hlen : ys.length = i) (h5 : ∀ (h : i < As.length), ViewOf w tl5 m y As[i]) :
    ∀ (j : Nat) (h : j < (ys ++ [y]).length) (h' : j < As.length), ViewOf w (tl5 ++ tl) m (ys ++ [y])[j] As[j] := fun j h h' => by
  rw [List.length_append, List.length_singleton] at h
  rcases Nat.lt_or_ge j ys.length with hj | hj
  · rw [List.getElem_append_left hj]; exact (hv j hj h').mono fun p hp => List.mem_append_right _ hp
  · obtain rfl : j = i := hlen ▸ Nat.le_antisymm (Nat.le_of_lt_succ h) hj
    rw [List.getElem_append_right hj]
    simp only [hlen, Nat.sub_self, List.getElem_cons_zero]
    exact (h5 h').mono fun p hp => List.mem_append_left _ hp
section
variable {w : World} {loose : List Str} {mean : ExcName → Option Value} {mg mb : Str → Option Value} {H₀ H : Heap}
set_option maxHeartbeats 600000 in
theorem view_lst0 (G : Gr w loose mean mg mb H₀) {n : Nat} (IH : ViewC w H₀ n) {l : List (Addr × Obj)} {x : Addr} {its : List Value} {Xs : List VD} (V : Val H₀ H l) (ox : Vec w l x sX its .none) (hlen : its.length = Xs.length) (hn : its.length < 100)
    (hX : ∀ (j : Nat) (h : j < its.length) (h' : j < Xs.length), SrcOf w l n its[j] Xs[j]) :
    Ctr w H₀ 485 [.ref x] (4 * (n + 1) + 4) (40 * (n + 1) + 40) H [] (fun h' r => Shown w H h' (2 * (n + 1)) r (.tup [.str sX, .lst Xs, .dct []])) := by
  obtain ⟨dx, t1, t2, t3, t4, t5, tq, lx, n', h1, h2, h3⟩ := id ox
  have kn : ([Str.ofString "list", Str.ofString "expression", Str.ofString "pairlist"].any fun x => x == sX) = true := by decide
  intro dp un fr gd s Q E eH st hdp hun hret
  subst eH
  have hvE : Val H₀ s.heap _ := V.pick h1 (V.pick h2 (V.pick h3 Val.nil))
  walk_at "m_fill"
  refine wpAny_call ?_
  k_dflt (refine' enterC (binds := [(Str.ofString "v", .ref x)]) G st _ hvE ?k6 ?k7 ?k8 ?k9 ?kB ?kD ?_ ?c2 ?c3 ?c4; walk_at "m_restC")
  intro g L h0 tk0 cells F N Y X T stg S l1
  refine hideQ (Q := Q) (fun _ _ x => x) ?_
  intro Q9 hQ9
  replace hret := hideR hQ9 hret
  clear hQ9
  show (let e9 := envOfC _ _ _ _ _; wpAny _ (Around.deeper _ e9) (execs _ e9) _ _ _)
  intro e9
  (try k_lt l1)
  k_cells Y
  (try simp only [List.cons_append, List.nil_append] at N)
  (try dsimp only)
  (try k_fold)
  k_steps
  unfold Stop
  rename Fr _ _ _ _ => F2
  rename News _ _ _ _ => N2
  refine LCg.CompSrc.ledger (by rfl) F2 N2 (by k_mem) (by walk_at "m_lsize") ?_
  intro g'
  refine comp_inv its.toArray.size (fun i ys nx => ∃ tl, nx = tl ++ _ ∧ (∀ p ∈ tl, s.heap.get? p.1 = none) ∧ ys.length = i ∧ ∀ (j : Nat) (h : j < ys.length) (h' : j < Xs.length), ViewOf w tl (2 * n) ys[j] Xs[j]) ?_ ?_ _ 0 [] _ (Nat.zero_add _) ⟨[], rfl, (fun _ h => nomatch h), rfl, (fun _ h => absurd h (Nat.not_lt_zero _))⟩
  · intro i ys nx y₀ I oI C oC D oD2 h tk E' hi' hP qz0
    first | (revert qz0; revert nx; refine y1_3 ?_; intro tl2 hf2 ez hv2) | obtain ⟨tl2, rfl, hf2, ez, hv2⟩ := qz0
    intro hC hx F3 N3 off ne
    clear F2 N2
    have N3h : Hid (News g L h ((I, oI) :: (C, oC) :: (D, _) :: (tl2 ++ _))) := ⟨N3⟩
    have N4 := news_mid N3
    have offh : Hid (LCg.Off3 I C D (tl2 ++ _)) := ⟨off⟩
    clear N3 off
    have hil : i < its.length := by simpa using hi'
    have hie : its[i] = y₀ := by
      obtain ⟨_, e⟩ := List.getElem?_eq_some_iff.mp (show its[i]? = some y₀ by simpa using hP)
      exact e
    k_steps
    have kp0 : KeepBut [] s.heap h := keep_now S hvE F3 N4 [] (by repeat (first | exact List.forall_mem_nil _ | refine faC (fun _ => by k_mem) (?_)))
    have hsrc : SrcOf w l n y₀ (Xs[i]'(by omega)) := by have := hX i hil (by omega); rw [hie] at this; exact this
    (try unfold Stop)
    refine go0 (IH l _ _ hsrc _ (V.keep kp0)) (by assumption) (by assumption) (by assumption) ⟨by walk_at "m_room", by walk_at "m_room"⟩ ?_
    intro rr5 hh5 tk5 kp5 ps5 F5 N5
    obtain ⟨tl5, hf5, hv5⟩ := ps5
    exact LCg.CompEnd.intro F5 (news_turn F3 hf5 (news_back0 N3h.out kp5)) (tl5 ++ (tl2 ++ _)) (fun _ hp => hp) (off3_new N3h.out (fun p hp => (hf5 p hp).1) offh.out) (.inr ⟨_, List.mem_append_right _ (List.mem_append_right _ (by k_mem)), rfl, _, rfl⟩) (i1_4 (tl5 ++ tl2) ((List.append_assoc _ _ _).symm) (fun p hp => (List.mem_append.mp hp).elim (fun hp => fresh_kp kp0 (hf5 p hp).1) (hf2 p)) (by simp [ez]) (views_snocL hv2 ez fun _ => hv5))
  · intro ys nx qz0
    first | (revert qz0; revert nx; refine y1_3 ?_; intro tl2 hf2 ez hv2) | obtain ⟨tl2, rfl, hf2, ez, hv2⟩ := qz0
    simp only [List.size_toArray] at ez
    unfold LCg.FinE
    intro D h tk F3 N3 off
    clear F2 N2
    have fD : s.heap.get? D = none := fresh_off S N3 off (by
      refine fun p hp => List.mem_append_right _ ?_
      revert p
      repeat (first | walk_at "m_fa" | exact List.forall_mem_nil _))
    have N4 := news_flip N3
    simp only [List.cons_append, List.nil_append] at N4
    clear N3 off
    k_steps
    rename_i dd h4 od lo hs fs hi9 fi l3 h3' _ tk9 D2 h2' l2 tk8 T' hA' Fw Nw lW
    (try dsimp only)
    exact hret _ _ _ (keep_now S hvE Fw Nw [] (by repeat (first | exact List.forall_mem_nil _ | refine faC (fun _ => by k_mem) (?_)))) ⟨(T', tupObj [.str sX tq, .ref D, .ref dd]) :: (D, LCg.lst ys) :: (dd, od) :: tl2,
      faC (⟨by walk_at "m_fresh", by walk_at "m_got"⟩) (faC (⟨fD, by walk_at "m_got"⟩) (faC (⟨by walk_at "m_fresh", by walk_at "m_got"⟩) (fun p hp => ⟨hf2 p hp, (Nw p (by repeat (first | (with_reducible exact hp) | apply List.mem_cons_of_mem))).1⟩))),
      shown_node (.head _) (.tail _ (.head _)) (.tail _ (.tail _ (.head _))) hs lo (ez.trans hlen) (fun j h h' => (hv2 j h h').mono fun p hp => .tail _ (.tail _ (.tail _ hp))) rfl (fun j h => absurd h (Nat.not_lt_zero _))⟩
end
local macro_rules | `(tactic| walk_at "m_none38") => `(tactic| skip)
theorem fresh_V4 : True := by
  w_top off
  trivial
section
variable {w : World} {loose : List Str} {mean : ExcName → Option Value} {mg mb : Str → Option Value} {H₀ H : Heap}
local macro_rules | `(tactic| walk_at "getItem ref") => `(tactic| refine Stop.go ?_)
set_option maxHeartbeats 600000 in
theorem view_lstD (G : Gr w loose mean mg mb H₀) {n : Nat} (IH : ViewC w H₀ n) {l : List (Addr × Obj)} {x d : Addr} {its : List Value} {Xs : List VD} {kvs : List (Str × Value)} {As : List (Str × VD)} (V : Val H₀ H l) (ox : Vec w l x sX its (.ref d)) (hlen : its.length = Xs.length) (hn : its.length < 100)
    (hX : ∀ (j : Nat) (h : j < its.length) (h' : j < Xs.length), SrcOf w l n its[j] Xs[j]) (hd : Dct w l d kvs) (hkv : kvs.length < 10) (hkk : kvs.map (·.1) = As.map (·.1)) (hA : ∀ (j : Nat) (h : j < kvs.length) (h' : j < As.length), SrcOf w l n kvs[j].2 As[j].2) :
    Ctr w H₀ 485 [.ref x] (4 * (n + 1) + 4) (40 * (n + 1) + 40) H [] (fun h' r => Shown w H h' (2 * (n + 1)) r (.tup [.str sX, .lst Xs, .dct As])) := by
  obtain ⟨dx, t1, t2, t3, t4, t5, tq, lx, n', h1, h2, h3⟩ := id ox
  obtain ⟨od, hd1, hod, lo⟩ := id hd
  have hnd : (kvs.map (·.1)).Nodup := dict_nodup hod
  have hAl : As.length = kvs.length := by simpa using (congrArg List.length hkk).symm
  have kn : ([Str.ofString "list", Str.ofString "expression", Str.ofString "pairlist"].any fun x => x == sX) = true := by decide
  intro dp un fr gd s Q E eH st hdp hun hret
  subst eH
  have hvE : Val H₀ s.heap _ := V.pick h1 (V.pick h2 (V.pick h3 (V.pick hd1 Val.nil)))
  walk_at "m_fill"
  refine wpAny_call ?_
  k_dflt (refine' enterC (binds := [(Str.ofString "v", .ref x)]) G st _ hvE ?k6 ?k7 ?k8 ?k9 ?kB ?kD ?_ ?c2 ?c3 ?c4; walk_at "m_restC")
  intro g L h0 tk0 cells F N Y X T stg S l1
  refine hideQ (Q := Q) (fun _ _ x => x) ?_
  intro Q9 hQ9
  replace hret := hideR hQ9 hret
  clear hQ9
  show (let e9 := envOfC _ _ _ _ _; wpAny _ (Around.deeper _ e9) (execs _ e9) _ _ _)
  intro e9
  (try k_lt l1)
  k_cells Y
  (try simp only [List.cons_append, List.nil_append] at N)
  (try dsimp only)
  (try k_fold)
  k_steps
  unfold Stop
  refine dcomp_assign (L := L) (PySem.strKind PG w) (by assumption) rfl (by with_unfolding_all rfl) (by with_unfolding_all rfl) (by decide) (by rfl) (by decide) (by rfl) (by rfl) (by rfl) ?_
  k_steps
  unfold Stop
  rename Fr _ _ _ _ => F2
  rename News _ _ _ _ => N2
  refine ⟨d, od, kvs, _, fun i ys nx => ∃ tl, nx = tl ++ _ ∧ (∀ p ∈ tl, s.heap.get? p.1 = none) ∧ ys.map (·.1) = (kvs.take i).map (·.1) ∧ ∀ (j : Nat) (h : j < ys.length) (h' : j < As.length), ViewOf w tl (2 * n) ys[j].2 As[j].2, rfl, rfl, F2, N2, hod, lo, T.nolimit, by rw [PySem.sizeLine_eq]; omega, ?_, ⟨[], rfl, (fun _ h => nomatch h), rfl, (fun _ h => absurd h (Nat.not_lt_zero _))⟩, ?_, ?_⟩
  · intro i ys nx qz0
    first | (revert qz0; revert nx; refine y1_1 ?_; intro tl zz2; clear zz2) | obtain ⟨tl, rfl, -⟩ := qz0
    exact List.mem_append_right _ (by k_mem)
  · intro i k y₀ v ys nx I oI C oC D oD m₂ h tk E' hik hkv' qz0
    first | (revert qz0; revert nx; refine y1_3 ?_; intro tl hf hyk hv) | obtain ⟨tl, rfl, hf, hyk, hv⟩ := qz0
    intro hC hx F3 N3 off ne
    first | (refine x1_1 (Value.isStrOf_shape hkv') ?_; intro t e9z; subst e9z) | obtain ⟨t, rfl⟩ := Value.isStrOf_shape hkv'
    clear F2 N2
    have N3h : Hid (News g L h ((I, oI) :: (C, oC) :: (D, oD) :: (tl ++ _))) := ⟨N3⟩
    have N4 := news_mid N3
    have offh : Hid (LCg.Off3 I C D (tl ++ _)) := ⟨off⟩
    clear N3 off
    obtain ⟨hil, hie⟩ := List.getElem?_eq_some_iff.mp hik
    have hyl : ys.length = i := take_len hyk hil
    k_steps
    unfold Stop
    refine kdt_getItem (knd := PySem.strKind _ _) N4 (by k_mem) hod (strKind_is _ _ _ _) (by have := valueAt_at hnd hil; rw [hie] at this; exact this) ?_
    k_steps
    have kp0 : KeepBut [] s.heap h := keep_now S hvE F3 N4 [] (by intro p hp _; k_ownIn)
    have hsrc : SrcOf w l n y₀ (As[i]'(by omega)).2 := by have := hA i hil (by omega); rw [hie] at this; exact this
    (try unfold Stop)
    refine go0 (IH l _ _ hsrc _ (V.keep kp0)) (by assumption) (by assumption) (by assumption) ⟨by walk_at "m_room", by walk_at "m_room"⟩ ?_
    intro rr5 hh5 tk5 kp5 ps5 F5 N5
    obtain ⟨tl5, hf5, hv5⟩ := ps5
    exact LCg.CompEnd.intro F5 (news_turn F3 hf5 (news_back0 N3h.out kp5)) (tl5 ++ (tl ++ _)) (fun _ hp => hp) (off3_new N3h.out (fun p hp => (hf5 p hp).1) offh.out) (trivial) (i1_4 (tl5 ++ tl) ((List.append_assoc _ _ _).symm) (fun p hp => (List.mem_append.mp hp).elim (fun hp => fresh_kp kp0 (hf5 p hp).1) (hf p)) (by rw [List.map_append, hyk, List.take_add_one, hik, List.map_append]; rfl) (views_snoc hv hyl fun _ => hv5))
  · intro yd nx Dd oDd h' tk' qz0
    first | (revert qz0; revert nx; refine y1_3 ?_; intro tl hf hyk hv) | obtain ⟨tl, rfl, hf, hyk, hv⟩ := qz0
    intro F3 N3 off hoD loD
    clear F2 N2
    have N4 := news_flip N3
    simp only [List.cons_append, List.nil_append] at N4
    have offh : Hid (LCg.Off1 Dd (tl ++ _)) := ⟨off⟩
    have fDd : s.heap.get? Dd = none := fresh_off S N3 off (by intro p hp; refine List.mem_append_right _ ?_; k_ownIn)
    clear N3 off
    k_steps
    unfold Stop
    rename Fr _ _ _ _ => F2
    rename News _ _ _ _ => N2
    refine LCg.CompSrc.ledger (by rfl) F2 N2 (by k_mem) (by walk_at "m_lsize") ?_
    intro g'
    refine comp_inv its.toArray.size (fun i ys nx => ∃ tl, nx = tl ++ _ ∧ (∀ p ∈ tl, s.heap.get? p.1 = none) ∧ ys.length = i ∧ ∀ (j : Nat) (h : j < ys.length) (h' : j < Xs.length), ViewOf w tl (2 * n) ys[j] Xs[j]) ?_ ?_ _ 0 [] _ (Nat.zero_add _) ⟨[], rfl, (fun _ h => nomatch h), rfl, (fun _ h => absurd h (Nat.not_lt_zero _))⟩
    · intro i ys nx y₀ I oI C oC D oD2 h tk E' hi' hP qz0
      first | (revert qz0; revert nx; refine y1_3 ?_; intro tl2 hf2 ez hv2) | obtain ⟨tl2, rfl, hf2, ez, hv2⟩ := qz0
      intro hC hx F3 N3 off ne
      clear F2 N2
      have N3h : Hid (News g L h ((I, oI) :: (C, oC) :: (D, _) :: (tl2 ++ _))) := ⟨N3⟩
      have N4 := news_mid N3
      have offh : Hid (LCg.Off3 I C D (tl2 ++ _)) := ⟨off⟩
      clear N3 off
      have hil : i < its.length := by simpa using hi'
      have hie : its[i] = y₀ := by
        obtain ⟨_, e⟩ := List.getElem?_eq_some_iff.mp (show its[i]? = some y₀ by simpa using hP)
        exact e
      k_steps
      have kp0 : KeepBut [] s.heap h := keep_now S hvE F3 N4 [] (by repeat (first | exact List.forall_mem_nil _ | refine faC (fun _ => by k_mem) (?_)))
      have hsrc : SrcOf w l n y₀ (Xs[i]'(by omega)) := by have := hX i hil (by omega); rw [hie] at this; exact this
      (try unfold Stop)
      refine go0 (IH l _ _ hsrc _ (V.keep kp0)) (by assumption) (by assumption) (by assumption) ⟨by walk_at "m_room", by walk_at "m_room"⟩ ?_
      intro rr5 hh5 tk5 kp5 ps5 F5 N5
      obtain ⟨tl5, hf5, hv5⟩ := ps5
      exact LCg.CompEnd.intro F5 (news_turn F3 hf5 (news_back0 N3h.out kp5)) (tl5 ++ (tl2 ++ _)) (fun _ hp => hp) (off3_new N3h.out (fun p hp => (hf5 p hp).1) offh.out) (.inr ⟨_, List.mem_append_right _ (List.mem_append_right _ (by k_mem)), rfl, _, rfl⟩) (i1_4 (tl5 ++ tl2) ((List.append_assoc _ _ _).symm) (fun p hp => (List.mem_append.mp hp).elim (fun hp => fresh_kp kp0 (hf5 p hp).1) (hf2 p)) (by simp [ez]) (views_snocL hv2 ez fun _ => hv5))
    · intro ys nx qz0
      first | (revert qz0; revert nx; refine y1_3 ?_; intro tl2 hf2 ez hv2) | obtain ⟨tl2, rfl, hf2, ez, hv2⟩ := qz0
      simp only [List.size_toArray] at ez
      unfold LCg.FinE
      intro D h tk F3 N3 off
      clear F2 N2
      have fD : s.heap.get? D = none := fresh_off S N3 off (by
        refine fun p hp => List.mem_append_right _ ?_
        revert p
        repeat (first | walk_at "m_fa" | exact List.forall_mem_nil _))
      have N4 := news_flip N3
      simp only [List.cons_append, List.nil_append] at N4
      clear N3 off
      k_steps
      rename_i D2 h2' l2 tk8 T' hA' Fw Nw lW
      (try dsimp only)
      rw [List.take_length] at hyk
      exact hret _ _ _ (keep_now S hvE Fw Nw [] (by repeat (first | exact List.forall_mem_nil _ | refine faC (fun _ => by k_mem) (?_)))) ⟨(T', tupObj [.str sX tq, .ref D, .ref Dd]) :: (D, LCg.lst ys) :: (Dd, oDd) :: (tl ++ tl2),
        faC (⟨by walk_at "m_fresh", by walk_at "m_got"⟩) (faC (⟨fD, by walk_at "m_got"⟩) (faC (⟨fDd, by walk_at "m_got"⟩) (fun p hp => ⟨(List.mem_append.mp hp).elim (hf p) (hf2 p), (Nw p (by repeat (first | (with_reducible exact hp) | apply List.mem_cons_of_mem))).1⟩))),
        shown_node (.head _) (.tail _ (.head _)) (.tail _ (.tail _ (.head _))) hoD loD (ez.trans hlen) (fun j h h' => (hv2 j h h').mono fun p hp => .tail _ (.tail _ (.tail _ (List.mem_append_right _ hp)))) (hyk.trans hkk) (fun j h h' => (hv j h h').mono fun p hp => .tail _ (.tail _ (.tail _ (List.mem_append_left _ hp))))⟩
end
section
variable {w : World} {loose : List Str} {mean : ExcName → Option Value} {mg mb : Str → Option Value} {H₀ H : Heap}
theorem Ctr.room {f : Addr} {args : List Value} {dd uu dd' uu' : Nat} {mods : List Addr} {Post : Heap → Value → Prop} (h : Ctr w H₀ f args dd uu H mods Post) (hd : dd ≤ dd') (hu : uu ≤ uu') : Ctr w H₀ f args dd' uu' H mods Post :=
  fun dp un fr gd s Q E e st hdp hun hret => h dp un fr gd s Q E e st (by omega) (by omega) hret
theorem Ctr.post {f : Addr} {args : List Value} {dd uu : Nat} {mods : List Addr} {Post Post' : Heap → Value → Prop} (h : Ctr w H₀ f args dd uu H mods Post) (hp : ∀ h' r, Post h' r → Post' h' r) : Ctr w H₀ f args dd uu H mods Post' :=
  fun dp un fr gd s Q E e st hdp hun hret => h dp un fr gd s Q E e st hdp hun fun r h' tk' k p => hret r h' tk' k (hp _ _ p)
theorem view_ctr (G : Gr w loose mean mg mb H₀) : ∀ n, ViewC w H₀ n
  | 0 => fun l v V h H Vl => by
    cases h with
    | null h1 h2 => exact (view_null (n := 2 * 0) G Vl h1 h2).room (by omega) (by omega)
  | n + 1 => fun l v V h H Vl => by
    have IH := view_ctr G n
    cases h with
    | null h1 h2 => exact (view_null G Vl h1 h2).room (by omega) (by omega)
    | vec h1 h2 h3 h4 h5 h6 h7 h8 h9 =>
      rename_i As
      rcases h6 with ⟨rfl, rfl⟩ | ⟨d, rfl, hd⟩
      · obtain rfl : As = [] := by simpa using h8.symm
        exact (view_vec0 (n := 2 * n) G Vl h1 h2 h3 h4 h5).room (by omega) (by omega)
      · exact view_vecD G IH Vl h1 h2 h3 h4 h5 hd h7 h8 h9
    | lst h1 h3 h4 h5 h6 h7 h8 h9 =>
      rename_i As
      rcases h6 with ⟨rfl, rfl⟩ | ⟨d, rfl, hd⟩
      · obtain rfl : As = [] := by simpa using h8.symm
        exact view_lst0 G IH Vl h1 h3 h4 h5
      · exact view_lstD G IH Vl h1 h3 h4 h5 hd h7 h8 h9
end
local macro_rules | `(tactic| walk_at "m_none39") => `(tactic| skip)
local macro_rules | `(tactic| walk_at "m_none40") => `(tactic| skip)
theorem fresh_N1 : True := by
  w_top off
  trivial
section
variable {w : World} {loose : List Str} {mean : ExcName → Option Value} {mg mb : Str → Option Value} {H₀ H : Heap}
theorem NeW.go {A : Around} {s : Shared} {y x : Value} {E Q : Value → Shared → Prop} (h : NeW w A s y x) (hq : Q (.bool false) s) : wpAny (model PG w) A (compareOp .NotEq y x) Q E s := h E Q hq
/-- what a draw gives, and what is left of the row -/
inductive Drawn (h' : Heap) (r : Addr) (m : Nat) (res : Value) : Prop where
  | mk (i : Int) (t : Tok) (its' : List Value) (xs' : List Int) (n' : Nat) (h1 : res = .int i t) (h2 : h'.get? r = some (listOf its'.toArray n')) (h3 : IntsAre its' xs') (h4 : its'.length ≤ m) : Drawn h' r m res
local macro_rules | `(tactic| walk_at "compareOp NotEq ref ref") => `(tactic| refine Stop.go ?_)
set_option maxHeartbeats 600000 in
theorem next_ctr (G : Gr w loose mean mg mb H₀) {l : List (Addr × Obj)} {r n : Nat} {its : List Value} {xs : List Int} (V : Val H₀ H l) (hr : (r, listOf its.toArray n) ∈ l) (hi : IntsAre its xs) (hn : its.length < 200) :
    Ctr w H₀ 480 [.ref r] 2 20 H [r] (fun h' res => Drawn h' r its.length res) := by
  rcases Nat.eq_zero_or_pos its.length with h0 | hpos
  · obtain rfl : its = [] := List.eq_nil_of_length_eq_zero h0
    intro dp un fr gd s Q E eH st hdp hun hret
    subst eH
    have hvE : Val H₀ s.heap _ := V.pick hr Val.nil
    walk_at "m_fill"
    refine wpAny_call ?_
    k_dflt (refine' enterR (binds := [(Str.ofString "row", .ref r)]) G st _ hvE ?k6 ?k7 ?k8 ?k9 ?kB ?_ ?c2 ?c3 ?c4 ?c5; walk_at "m_rest0")
    intro g L h0 tk0 F N X T stg S l1
    refine hideQ (Q := Q) (fun _ _ x => x) ?_
    intro Q9 hQ9
    replace hret := hideR hQ9 hret
    clear hQ9
    show (let e9 := envOf _ _ _ _ _; wpAny _ (Around.deeper _ e9) (execs _ e9) _ _ _)
    intro e9
    (try k_lt l1)
    (try dsimp only)
    (try k_fold)
    k_steps
    unfold Stop
    rename News _ _ _ _ => Nw
    refine NeW.go (NeW.lists (isList_of Nw (by k_mem)) (isList_of (its := []) (n := 0) Nw (by k_mem)) rfl (by walk_at "m_room") (fun j h1 => absurd h1 (Nat.not_lt_zero _))) ?_
    k_steps
    rename Fr _ _ _ _ => Fw
    exact hret _ _ _ (keep_now S hvE Fw Nw [r] (fun p hp hn => by rw [List.mem_singleton.mp hp] at hn; exact absurd (List.mem_singleton.mpr rfl) hn)) ⟨_, _, [], [], n, rfl, News.get Nw (by k_mem), .nil, Nat.le_refl _⟩
  · intro dp un fr gd s Q E eH st hdp hun hret
    subst eH
    have hvE : Val H₀ s.heap _ := V.pick hr Val.nil
    walk_at "m_fill"
    refine wpAny_call ?_
    k_dflt (refine' enterR (binds := [(Str.ofString "row", .ref r)]) G st _ hvE ?k6 ?k7 ?k8 ?k9 ?kB ?_ ?c2 ?c3 ?c4 ?c5; walk_at "m_rest0")
    intro g L h0 tk0 F N X T stg S l1
    refine hideQ (Q := Q) (fun _ _ x => x) ?_
    intro Q9 hQ9
    replace hret := hideR hQ9 hret
    clear hQ9
    show (let e9 := envOf _ _ _ _ _; wpAny _ (Around.deeper _ e9) (execs _ e9) _ _ _)
    intro e9
    (try k_lt l1)
    (try dsimp only)
    (try k_fold)
    k_steps
    unfold Stop
    rename News _ _ _ _ => Nw
    refine (SeqAt.RcNeAt.lists_lengths (isList_of Nw (by k_mem)) (isList_of (its := []) (n := 0) Nw (by k_mem)) (by simp only [List.size_toArray, List.length_nil, bne_iff_ne, ne_eq]; omega) (by walk_at "m_room")) PG w _ _ ?_
    k_steps
    rename Fr _ _ _ _ => Fw
    rename News _ _ _ _ => Nv
    exact hret _ _ _ (keep_now S hvE Fw Nv [r] (fun p hp hn => by rw [List.mem_singleton.mp hp] at hn; exact absurd (List.mem_singleton.mpr rfl) hn)) ⟨_, _, _, _, n + 1, rfl, News.get Nv (by k_mem), by assumption, by simp⟩
end
section
variable {prog : Program} {w : World} {A : Around} {E : Value → Shared → Prop} {s : Shared} {env : Env} {h₀ : Heap} {x : Str} {body : List Stmt} {Q : Flow → Shared → Prop}

/-- a loop over a list that itself stays as it is: Led what the rest of the ledger is ahead of turn i -/
theorem list_loop {ax : Addr} {its : List Value} {c : Nat} {m₀ : Str → Option Value} {news : List (Addr × Obj)} (ns : List Str) (Led : Nat → List (Addr × Obj) → Prop)
    (hh : A.handled = none) (F : Fr h₀ env.locals s.heap m₀) (N : News h₀ env.locals s.heap ((ax, listOf its.toArray c) :: news)) (hj : Led 0 news) (hled : ∀ i nx, Led i nx → ∀ p ∈ nx, ∃ q ∈ news, q.1 = p.1)
    (turn : ∀ i v (u : Str → Option Value) I ot' it nx h tk, its[i]? = some v → Led i nx → Fr h₀ env.locals h (fun y => if y = x then some v else if ns.contains y then u y else m₀ y) → News h₀ env.locals h (nx ++ [(I, it), (ax, ot')]) →
      (∀ p ∈ nx, @Ne Nat p.1 I ∧ @Ne Nat p.1 ax) →
      wpAny (model prog w) A (execs body env) (InvPostN h₀ env.locals (fun m' nx' => Led (i + 1) nx' ∧ ∀ z, ns.contains z = false → m' z = m₀ z) [(I, it), (ax, ot')] (nx.map (·.1)) { s with heap := h, toks := tk } Q) E { s with heap := h, toks := tk })
    (hax : ∀ p ∈ news, p.1 ≠ ax)
    (done : ∀ (u : Str → Option Value) nx h tk, Led its.length nx → Fr h₀ env.locals h (fun y => if ns.contains y then u y else m₀ y) → News h₀ env.locals h nx → Q .next { s with heap := h, toks := tk }) :
    wpAny (model prog w) A (pyIter (.ref ax)) (fun it s₂ => LoopAtV prog w A h₀ env x body Q E it s₂) E s := by
  have D := N _ (.head _)
  have ht : s.heap.IsList ax its.toArray := ⟨_, D.1, rfl, c, rfl⟩
  have hlt : ax < s.heap.objs.size := Heap.lt_size D.1
  refine wpAny_pyIter_list ht ?_
  have W := Walks.list (prog := prog) (w := w) hh s.heap.objs.size ax (Nat.ne_of_lt hlt) its.toArray
  have off0 : ∀ p ∈ news, p.1 ∉ [s.heap.objs.size] := fun p hp hI => absurd (Heap.lt_size (N p (.tail _ hp)).1) ((List.mem_singleton.mp hI) ▸ Nat.lt_irrefl _)
  have off : ∀ i nx, Led i nx → ∀ p ∈ nx, p.1 ∉ [s.heap.objs.size] := fun i nx hl p hp => by
    first | (refine x1_2 (hled i nx hl p hp) ?_; intro q hq e) | obtain ⟨q, hq, e⟩ := hled i nx hl p hp
    rw [← e]; exact off0 q hq
  refine loop_own (news := news) (fun i m nx => Led i nx ∧ ∀ z, ns.contains z = false → m z = m₀ z) W ?_ ?_ ?_ off0 ⟨⟨_, Heap.get?_push_size _ rfl, rfl, rfl⟩, ht.push _⟩ (F.push _) (fun p hp => ⟨Heap.get?_push_of_some _ (N p (.tail _ hp)).1, (N p (.tail _ hp)).2⟩) ⟨hj, fun _ _ => rfl⟩ ?_ ?_
  · rintro i h ⟨⟨o1, e1, _⟩, ⟨o2, e2, _⟩⟩ b hb
    rcases List.mem_cons.mp hb with rfl | hb
    · exact ⟨_, e1⟩
    · rw [List.mem_singleton.mp hb]; exact ⟨_, e2⟩
  · intro b hb
    rcases List.mem_cons.mp hb with rfl | hb
    · exact next_is_new F
    · rw [List.mem_singleton.mp hb]; exact D.2.2
  · intro hm
    rcases List.mem_cons.mp hm with e | hm
    · exact absurd F.ns.lt (e ▸ Nat.lt_irrefl _)
    · exact D.2.1 (List.mem_singleton.mp hm).symm
  · rintro i v m₁ nx h tk f hi hP ⟨hL, hm⟩ F' N'
    rw [ovr_of hm] at F'
    refine wpAny_mono (turn i v m₁ s.heap.objs.size (f ax) (f s.heap.objs.size) nx h tk (by simpa using hP) hL F' N' (fun p hp => ⟨fun e => off i nx hL p hp (List.mem_singleton.mpr e), fun e => by
      first | (refine x1_2 (hled i nx hL p hp) ?_; intro q hq eq) | obtain ⟨q, hq, eq⟩ := hled i nx hL p hp
      exact hax q hq (eq.trans e)⟩)) (fun fl s₂ p => ?_) fun _ _ e => e
    cases fl with
    | ret v => exact p
    | brk => exact p
    | next => obtain ⟨a1, a2, a3, a4, a5, b1, b2, b3, b4, b5, b6, b7, b8⟩ := p; exact ⟨a1, a2, a3, a4, a5, b1, b2, b3, b4, b5, b6, ⟨b7, b8⟩, off _ _ b7⟩
    | cont => obtain ⟨a1, a2, a3, a4, a5, b1, b2, b3, b4, b5, b6, b7, b8⟩ := p; exact ⟨a1, a2, a3, a4, a5, b1, b2, b3, b4, b5, b6, ⟨b7, b8⟩, off _ _ b7⟩
  · rintro m₁ nx h tk ⟨hL, hm⟩ F₁ N₁
    rw [List.size_toArray] at hL
    refine done m₁ nx h tk hL ?_ N₁
    rw [← ovr_of hm]; exact F₁

/-- a loop over a range that carries an int under the name f -/
theorem range_int {f : Str} {r : Addr} {a₀ b₀ : Int} {t₀ u₀ v₀ : Tok} {n : Nat} {m₀ : Str → Option Value} {news : List (Addr × Obj)} (ns : List Str) (Led : Nat → List (Addr × Obj) → Prop)
    (hh : A.handled = none) (hr : IsRange s.heap r a₀ b₀ 1 t₀ u₀ v₀) (hsmall : Builtin.Range.small a₀ b₀ 1 = true) (hn : Builtin.Range.rangeSize a₀ b₀ 1 = (n : Int)) (F : Fr h₀ env.locals s.heap m₀) (N : News h₀ env.locals s.heap news) (hj : Led 0 news) (hf : ∃ k t, m₀ f = some (.int k t))
    (turn : ∀ (i : Nat) t k tf (u : Str → Option Value) nx h tk own, i < n → OwnOff own (news.map (·.1)) → Led i nx → Fr h₀ env.locals h (fun y => if y = x then some (.int (a₀ + i) t) else if y = f then some (.int k tf) else if ns.contains y then u y else m₀ y) → News h₀ env.locals h (nx ++ own) →
      wpAny (model prog w) A (execs body env) (InvPostN h₀ env.locals (fun m' nx' => (∃ k t, m' f = some (.int k t)) ∧ Led (i + 1) nx' ∧ ∀ z, ns.contains z = false → m' z = m₀ z) own (news.map (·.1)) { s with heap := h, toks := tk } Q) E { s with heap := h, toks := tk })
    (done : ∀ (u : Str → Option Value) nx h tk, Led n nx → Fr h₀ env.locals h (fun y => if ns.contains y then u y else m₀ y) → News h₀ env.locals h nx → Q .next { s with heap := h, toks := tk }) :
    wpAny (model prog w) A (pyIter (.ref r)) (fun it s₂ => LoopAtV prog w A h₀ env x body Q E it s₂) E s := by
  refine kpr_invN (fun i m nx => (∃ k t, m f = some (.int k t)) ∧ Led i nx ∧ ∀ z, ns.contains z = false → m z = m₀ z) hh hr hsmall hn F N ⟨hf, hj, fun _ _ => rfl⟩ ?_ ?_
  · rintro i k t m₁ nx h tk own hk hoff ⟨⟨kf, tf, ef⟩, hL, hm⟩ F₁ N₁
    have hi : i < n := by
      have := (List.getElem?_eq_some_iff.mp hk).1
      rwa [rangeKs_length] at this
    have e : k = a₀ + (i : Int) := by
      have := hk
      simp [rangeKs, hi] at this
      exact this.symm
    subst e
    have em : m₁ = fun y => if y = f then some (.int kf tf) else if ns.contains y then m₁ y else m₀ y := by
      funext z
      by_cases hz : z = f
      · rw [if_pos hz, hz, ef]
      · rw [if_neg hz]; exact congrFun (ovr_of hm) z
    rw [em] at F₁
    exact turn i t kf tf m₁ nx h tk own hi hoff hL F₁ N₁
  · rintro m₁ nx h tk ⟨_, hL, hm⟩ F₁ N₁
    rw [rangeKs_length] at hL
    refine done m₁ nx h tk hL ?_ N₁
    rw [← ovr_of hm]; exact F₁
end
local macro_rules | `(tactic| walk_at "m_names2") => `(tactic| (intro z hz; (repeat (first | (with_reducible rfl) | (refine (if_neg (ne_of_contains hz ?ha)).trans ?_; (case ha => rfl)) | (refine (if_neg (not_contains hz)).trans ?_) | (refine (if_neg (not_contains (contains_tail hz))).trans ?_)))))
local macro_rules | `(tactic| walk_at "m_none41") => `(tactic| skip)
theorem fresh_N3 : True := by
  w_top off
  trivial
section
variable {w : World} {loose : List Str} {mean : ExcName → Option Value} {mg mb : Str → Option Value} {H₀ H : Heap}
local macro_rules | `(tactic| walk_at "InvEndN") => `(tactic| refine Stop.go ?_)
local macro_rules | `(tactic| walk_at "exec For Name Subscript cons nil") => `(tactic| refine Stop.go ?_)
local macro_rules | `(tactic| walk_at "exec For Name Call cons nil") => `(tactic| refine Stop.go ?_)
theorem ints_snoc {k : Int} {t : Tok} {zs : List Value} {ys : List Int} (h : IntsAre zs ys) : IntsAre (zs ++ [.int k t]) (ys ++ [k]) := by
  induction h with
  | nil => exact .cons k t .nil
  | cons n u _ ih => exact .cons n u ih
local macro_rules | `(tactic| walk_at "call builtin:list.reverse") => `(tactic| refine Stop.go ?_)
set_option maxHeartbeats 600000 in
theorem row_ctr (G : Gr w loose mean mg mb H₀) {sc : Addr} {vs : List Value} {xs : List Int} (hs : H₀.IsList sc vs.toArray) (hi : IntsAre vs xs) (hn : vs.length ≤ 63) :
    Ctr w H₀ 473 [.ref sc] 4 40 H [] (fun h' res => ∃ r its ys n', res = .ref r ∧ H.get? r = none ∧ h'.get? r = some (listOf its.toArray n') ∧ IntsAre its ys ∧ its.length ≤ 160) := by
  intro dp un fr gd s Q E eH st hdp hun hret
  subst eH
  have hvE : Val H₀ s.heap _ := (Val.nil : Val H₀ s.heap [])
  walk_at "m_fill"
  refine wpAny_call ?_
  k_dflt (refine' enterR (binds := [(Str.ofString "script", .ref sc)]) G st _ hvE ?k6 ?k7 ?k8 ?k9 ?kB ?_ ?c2 ?c3 ?c4 ?c5; walk_at "m_rest0")
  intro g L h0 tk0 F N X T stg S l1
  refine hideQ (Q := Q) (fun _ _ x => x) ?_
  intro Q9 hQ9
  replace hret := hideR hQ9 hret
  clear hQ9
  show (let e9 := envOf _ _ _ _ _; wpAny _ (Around.deeper _ e9) (execs _ e9) _ _ _)
  intro e9
  (try k_lt l1)
  (try dsimp only)
  (try k_fold)
  have hsg : g.IsList sc vs.toArray := (let ⟨o, e, q⟩ := hs; ⟨o, stg _ _ e, q⟩)
  k_steps
  unfold Stop
  refine' For_invVF (by assumption) rfl rfl ?_
  k_steps
  unfold Stop
  rename_i l9 h2' l1' h1' D9 ws h9 F9 N9 hI hC hL l2
  have hwl := hI.length
  have hw40 : ws.length ≤ 40 := by rw [hwl, List.length_take]; exact Nat.min_le_left _ _
  refine list_loop [Str.ofString "cell", Str.ofString "figure", Str.ofString "lap"] (fun i nx => ∃ (zs : List Value) (c : Nat) (ys : List Int), nx = [(l9, listOf zs.toArray c)] ∧ IntsAre zs ys ∧ zs.length ≤ 31 * i) rfl F9 N9 ⟨[], 0, [], rfl, .nil, Nat.zero_le _⟩ (by rintro i nx ⟨zs, c, ys, rfl, -, -⟩ p hp; exact ⟨_, .head _, by rw [List.mem_singleton.mp hp]⟩) ?_ (fun p hp => by rw [List.mem_singleton.mp hp]; exact Nat.ne_of_lt l2) ?_
  · intro i v u I ot' it nx h tk hv qz0
    first | (revert qz0; revert nx; refine y3_2 ?_; intro zs c ys hzs hzl) | obtain ⟨zs, c, ys, rfl, hzs, hzl⟩ := qz0
    intro F3 N3 ne
    first | (refine x2_2 (IntsAre.at hI i v hv) ?_; intro k tv e9z hk'; subst e9z) | obtain ⟨k, tv, rfl, hk'⟩ := IntsAre.at hI i v hv
    have hil : i < ws.length := (List.getElem?_eq_some_iff.mp hv).1
    have hz1 : zs.length ≤ 16777216 := ar_row hzl hil hw40
    simp only [List.cons_append, List.nil_append] at N3
    have ne1 : @Ne Nat I l9 := Ne.symm (ne _ (.head _)).1
    have ne2 : @Ne Nat D9 l9 := Ne.symm (ne _ (.head _)).2
    clear ne F9 N9
    k_steps
    all_goals (
      unfold Stop
      refine' For_invVF (by assumption) rfl rfl ?_
      k_steps
      unfold Stop
      rename IsRange _ _ _ _ _ _ _ _ => R9
      rename Fr _ _ _ _ => F9
      rename News _ _ _ _ => N9
      rw [List.push_toArray] at N9
      refine range_int (f := Str.ofString "figure") (n := 30) [Str.ofString "figure", Str.ofString "lap"] (fun j nx => ∃ (zs' : List Value) (c' : Nat) (ys' : List Int), nx = [(l9, listOf zs'.toArray c'), (I, it), (D9, ot')] ∧ IntsAre zs' ys' ∧ zs'.length ≤ 31 * i + 1 + j) rfl R9 (by decide) (by decide) F9 N9 ⟨_, _, _, rfl, ints_snoc hzs, by simp only [List.length_append, List.length_singleton]; omega⟩ ⟨_, _, rfl⟩ ?_ ?_
      · intro j tj kf tf uj nx h tkj own hj30 hoff qz0
        first | (revert qz0; revert nx; refine y3_2 ?_; intro zs' c' ys' hz' hl') | obtain ⟨zs', c', ys', rfl, hz', hl'⟩ := qz0
        intro F5 N5
        have hz2 : zs'.length ≤ 16777216 := ar_row2 hl' hj30 hil hw40
        simp only [List.cons_append, List.nil_append] at N5
        clear N9 F9
        k_steps
        · rename_i k9 t9 b9 c9 h1x _ h2x F6 N6
          rw [List.push_toArray] at N6
          unfold Stop
          refine InvEndN.intro F6 N6 ⟨⟨_, _, rfl⟩, ⟨zs' ++ [.int k9 t9], c' + 1, ys' ++ [k9], rfl, ints_snoc hz', by simp only [List.length_append, List.length_singleton]; omega⟩, ?_⟩ rfl ?_ ?_
          · walk_at "m_names2"
          · walk_at "m_sub"
          · walk_at "m_own"
        · refine InvEndN.intro F5 N5 ⟨⟨_, _, rfl⟩, ⟨zs', c', ys', rfl, hz', by omega⟩, ?_⟩ rfl ?_ ?_
          · walk_at "m_names2"
          · walk_at "m_sub"
          · walk_at "m_own"
      · intro u' nx h tk' qz0
        first | (revert qz0; revert nx; refine y3_2 ?_; intro zs' c' ys' hz' hl') | obtain ⟨zs', c', ys', rfl, hz', hl'⟩ := qz0
        intro F5 N5
        clear N9 F9
        k_steps
        unfold Stop
        refine InvEndN.intro F5 N5 ⟨⟨zs', c', ys', rfl, hz', by omega⟩, ?_⟩ rfl ?_ ?_
        · walk_at "m_names2"
        · walk_at "m_sub"
        · walk_at "m_own")
  · intro u nx h tk qz0
    first | (revert qz0; revert nx; refine y3_2 ?_; intro zs c ys hzs hzl) | obtain ⟨zs, c, ys, rfl, hzs, hzl⟩ := qz0
    intro F3 N3
    clear F9 N9
    have hz3 : zs.length ≤ 16777216 := ar_row3 hzl hw40
    k_steps
    rename_i D' ws' h5' hI' hC' hL' l5 h6' F6 N6
    have hyl := hzs.length
    have hwl' := hI'.length
    have hw9 : ws'.length ≤ 160 := by rw [hwl', List.length_take]; exact Nat.min_le_left _ _
    unfold Stop
    refine reverse_head F6 N6 (fun p hp => by rw [List.mem_singleton.mp hp]; exact Nat.ne_of_lt l5) ?_ (by rw [PySem.sizeLine_eq]; simp only [List.size_toArray]; omega)
    intro h7 F7 N7
    clear F6 N6
    k_steps
    (try dsimp only)
    refine hret _ _ _ (by walk_at "m_keep") ⟨D', ws'.reverse, _, 0, rfl, by walk_at "m_fresh", by walk_at "m_got", hI'.reverse, by rw [List.length_reverse]; omega⟩
end
section
variable {prog : Program} {w : World} {A : Around} {E : Value → Shared → Prop} {s : Shared} {env : Env} {h₀ : Heap} {x : Str} {body : List Stmt} {Q : Flow → Shared → Prop}

/-- a turn's end where the ledger may have grown -/
inductive GrowEnd (h₀ : Heap) (L : Addr) (J : (Str → Option Value) → List (Addr × Obj) → Prop) (own : List (Addr × Obj)) (I : Addr) (s₁ s₂ : Shared) : Prop where
  | mk (h' : Heap) (tk : Tok) (m' : Str → Option Value) (news' nx : List (Addr × Obj)) (h1 : s₂ = { s₁ with heap := h', toks := tk }) (h2 : Fr h₀ L h' m') (h3 : News h₀ L h' news') (h4 : ∀ p ∈ nx, p ∈ news') (h5 : ∀ p ∈ own, p ∈ news') (h6 : ∀ p ∈ nx, @Ne Nat p.1 I) (h7 : J m' nx) : GrowEnd h₀ L J own I s₁ s₂
def GrowPost (h₀ : Heap) (L : Addr) (J : (Str → Option Value) → List (Addr × Obj) → Prop) (own : List (Addr × Obj)) (I : Addr) (s₁ : Shared) (Q : Flow → Shared → Prop) (f : Flow) (s₂ : Shared) : Prop :=
  match f with
  | .ret v => Q (.ret v) s₂
  | .brk => Q .next s₂
  | _ => GrowEnd h₀ L J own I s₁ s₂

/-- a loop over a list that itself stays as it is, the rest of the ledger growing -/
theorem list_grow {ax : Addr} {its : List Value} {c : Nat} {m₀ : Str → Option Value} {news : List (Addr × Obj)} (ns : List Str) (Led : Nat → List (Addr × Obj) → Prop)
    (hh : A.handled = none) (F : Fr h₀ env.locals s.heap m₀) (N : News h₀ env.locals s.heap ((ax, listOf its.toArray c) :: news)) (hj : Led 0 news)
    (turn : ∀ i v (u : Str → Option Value) I ot' it nx h tk, its[i]? = some v → Led i nx → (∀ p ∈ nx, @Ne Nat p.1 I) → Fr h₀ env.locals h (fun y => if y = x then some v else if ns.contains y then u y else m₀ y) → News h₀ env.locals h (nx ++ [(I, it), (ax, ot')]) →
      wpAny (model prog w) A (execs body env) (GrowPost h₀ env.locals (fun m' nx' => Led (i + 1) nx' ∧ ∀ z, ns.contains z = false → m' z = m₀ z) [(I, it), (ax, ot')] I { s with heap := h, toks := tk } Q) E { s with heap := h, toks := tk })
    (done : ∀ (u : Str → Option Value) nx h tk, Led its.length nx → Fr h₀ env.locals h (fun y => if ns.contains y then u y else m₀ y) → News h₀ env.locals h nx → Q .next { s with heap := h, toks := tk }) :
    wpAny (model prog w) A (pyIter (.ref ax)) (fun it s₂ => LoopAtV prog w A h₀ env x body Q E it s₂) E s := by
  have D := N _ (.head _)
  have ht : s.heap.IsList ax its.toArray := ⟨_, D.1, rfl, c, rfl⟩
  have hlt : ax < s.heap.objs.size := Heap.lt_size D.1
  refine wpAny_pyIter_list ht ?_
  have W := Walks.list (prog := prog) (w := w) hh s.heap.objs.size ax (Nat.ne_of_lt hlt) its.toArray
  generalize hI : s.heap.objs.size = I at W ⊢
  have off0 : ∀ p ∈ news, p.1 ∉ [I] := fun p hp hI' => absurd (Heap.lt_size (N p (.tail _ hp)).1) (by rw [hI, List.mem_singleton.mp hI']; exact Nat.lt_irrefl _)
  have hLf : env.locals ∉ [I, ax] := fun hm => by
    rcases List.mem_cons.mp hm with e | hm
    · have := F.ns.lt; rw [hI, e] at this; exact Nat.lt_irrefl _ this
    · exact D.2.1 (List.mem_singleton.mp hm).symm
  have hfr : ∀ b ∈ [I, ax], h₀.get? b = none := fun b hb => by
    rcases List.mem_cons.mp hb with rfl | hb
    · rw [← hI]; exact next_is_new F
    · rw [List.mem_singleton.mp hb]; exact D.2.2
  refine i9_11 I [I, ax] [I] (its.toArray.size) _ _ m₀ news (fun i m nx => Led i nx ∧ ∀ z, ns.contains z = false → m z = m₀ z) rfl W hLf (fun b hb => hfr b (W.sub b hb)) off0 ⟨⟨_, by rw [← hI]; exact Heap.get?_push_size _ rfl, rfl, rfl⟩, ht.push _⟩ (F.push _) (fun p hp => ⟨Heap.get?_push_of_some _ (N p (.tail _ hp)).1, (N p (.tail _ hp)).2⟩) ⟨hj, fun _ _ => rfl⟩ ?_ ?_
  · intro i v m₁ nx s₁ own qz0
    first | (refine x2_1 (qz0) ?_; intro hh' tk' e9z; clear qz0; subst e9z) | obtain ⟨hh', tk', rfl⟩ := qz0
    intro hin hP qz1
    obtain ⟨hL, hm⟩ := qz1
    intro hoff hown hat hcv hst' F₁ N₁
    obtain ⟨⟨o1, e1, q1⟩, ⟨o2, e2, q2⟩⟩ := hst'
    have N₂ : News h₀ env.locals hh' (nx ++ [(I, o1), (ax, o2)]) := fun p hp => by
      rcases List.mem_append.mp hp with hp | hp
      · exact N₁ p (List.mem_append_right _ hp)
      · rcases List.mem_cons.mp hp with rfl | hp
        · exact ⟨e1, fun e => hLf (by rw [show I = env.locals from e]; exact .head _), hfr I (.head _)⟩
        · rw [List.mem_singleton.mp hp]
          exact ⟨e2, D.2.1, D.2.2⟩
    rw [ovr_of hm] at F₁
    have hnx : ∀ p ∈ nx, @Ne Nat p.1 I := fun p hp e => hoff p hp (List.mem_singleton.mpr e)
    refine wpAny_mono (turn i v m₁ I o2 o1 nx hh' tk' (by simpa using hP) hL hnx F₁ N₂) (fun f s₂ p => ?_) fun _ _ e => e
    have fin : GrowEnd h₀ env.locals (fun m' n' => Led (i + 1) n' ∧ ∀ z, ns.contains z = false → m' z = m₀ z) [(I, o1), (ax, o2)] I { s with heap := hh', toks := tk' } s₂ → LoopStepU h₀ env.locals [I] own (fun m' n' => Led (i + 1) n' ∧ ∀ z, ns.contains z = false → m' z = m₀ z) { s with heap := hh', toks := tk' } .next s₂ := by
      rintro ⟨h', tk, m', news', n', e, F', N', hn, ho, hne, hm'⟩
      refine ⟨rfl, h', tk, m', n', e, F', fun p hp => N' p ((List.mem_append.mp hp).elim (fun hp => ho p ?_) (hn p)), fun p hp hw => hne p hp (List.mem_singleton.mp hw), hm'⟩
      have h1 := hat p hp
      have h2 : hh'.get? p.1 = some p.2 := h1
      rcases List.mem_cons.mp (hown p hp) with e | e
      · rw [e, e1] at h2
        have : p = (I, o1) := Prod.ext e (Option.some.inj h2).symm
        rw [this]; exact .head _
      · have e' := List.mem_singleton.mp e
        rw [e', e2] at h2
        have : p = (ax, o2) := Prod.ext e' (Option.some.inj h2).symm
        rw [this]; exact .tail _ (.head _)
    cases f with
    | ret v => exact .ret p
    | brk => exact .brk p
    | next => exact .next (fin p)
    | cont => exact .cont (fin p)
  · rintro h' tk m' news' F' N' _ ⟨hL, hm⟩
    rw [List.size_toArray] at hL
    refine done m' news' h' tk hL ?_ N'
    rw [← ovr_of hm]; exact F'

/-- a statement's end, where the proof is cut -/
inductive Cut (h₀ : Heap) (L : Addr) (s₁ : Shared) (J : (Str → Option Value) → List (Addr × Obj) → Prop) (f : Flow) (s₂ : Shared) : Prop where
  | mk (h1 : f = .next) (h : Heap) (tk : Tok) (m : Str → Option Value) (nx : List (Addr × Obj)) (h2 : s₂ = { s₁ with heap := h, toks := tk }) (h3 : Fr h₀ L h m) (h4 : News h₀ L h nx) (h5 : J m nx) : Cut h₀ L s₁ J f s₂
theorem cut_here {M : Model} {t : Sem Flow} {L : Addr} (J : (Str → Option Value) → List (Addr × Obj) → Prop) (h1 : wpAny M A t (Cut h₀ L s J) E s)
    (h2 : ∀ h tk m nx, Fr h₀ L h m → News h₀ L h nx → J m nx → Q .next { s with heap := h, toks := tk }) : wpAny M A t Q E s :=
  wpAny_mono h1 (fun f s' q => by obtain ⟨rfl, h, tk, m, nx, rfl, F, N, j⟩ := q; exact h2 h tk m nx F N j) fun _ _ e => e
theorem cut_same {M : Model} {t : Sem Flow} {L : Addr} {m : Str → Option Value} (_F : Fr h₀ L s.heap m) (J : List (Addr × Obj) → Prop) (h1 : wpAny M A t (Cut h₀ L s (fun m' nx => m' = m ∧ J nx)) E s)
    (h2 : ∀ h tk nx, Fr h₀ L h m → News h₀ L h nx → J nx → Q .next { s with heap := h, toks := tk }) : wpAny M A t Q E s :=
  cut_here _ h1 fun h tk m' nx F N ⟨e, j⟩ => h2 h tk nx (e ▸ F) N j
end
section
variable {prog : Program} {w : World} {A : Around} {E : Value → Shared → Prop} {s : Shared} {env : Env} {h₀ : Heap} {elts : List PySem.Expr} {tk0 : Nat} {tp : Pos} {body : List Stmt} {Q : Flow → Shared → Prop}

/-- a loop over a list of tuples, each taken apart, that turns nothing of the ledger -/
theorem pair_loop {ax : Addr} {its : List Value} {c : Nat} {m₀ : Str → Option Value} {news : List (Addr × Obj)} (ns : List Str)
    (hh : A.handled = none) (F : Fr h₀ env.locals s.heap m₀) (N : News h₀ env.locals s.heap ((ax, listOf its.toArray c) :: news)) (hrefs : ∀ v ∈ its, ∃ T, v = .ref T)
    (turn : ∀ (i : Nat) v (u : Str → Option Value) I ot' it h tk, its[i]? = some v → (∀ p ∈ news, @Ne Nat p.1 I) → Fr h₀ env.locals h (fun y => if ns.contains y then u y else m₀ y) → News h₀ env.locals h (news ++ [(I, it), (ax, ot')]) →
      wpAny (model prog w) A (assign (.Tuple elts tk0 tp) env v) (fun _ s₂ => wpAny (model prog w) A (execs body env) (GrowPost h₀ env.locals (fun m' nx' => nx' = news ∧ ∀ z, ns.contains z = false → m' z = m₀ z) [(I, it), (ax, ot')] I { s with heap := h, toks := tk } Q) E s₂) E { s with heap := h, toks := tk })
    (done : ∀ (u : Str → Option Value) h tk, Fr h₀ env.locals h (fun y => if ns.contains y then u y else m₀ y) → News h₀ env.locals h news → Q .next { s with heap := h, toks := tk }) :
    wpAny (model prog w) A (pyIter (.ref ax)) (fun it s₂ => TurnsAt prog w A h₀ env (.Tuple elts tk0 tp) body Q E it s₂) E s := by
  have D := N _ (.head _)
  have ht : s.heap.IsList ax its.toArray := ⟨_, D.1, rfl, c, rfl⟩
  have hlt : ax < s.heap.objs.size := Heap.lt_size D.1
  refine wpAny_pyIter_list ht ?_
  have W0 := Walks.list (prog := prog) (w := w) hh s.heap.objs.size ax (Nat.ne_of_lt hlt) its.toArray
  generalize hI : s.heap.objs.size = I at W0 ⊢
  have W : KTurns prog w A (.Tuple elts tk0 tp) I [I, ax] [I] its.toArray.size (fun i v _ => its.toArray[i]? = some v) (fun i v h => its.toArray[i]? = some v ∧ h.IsListIter I ax (i + 1) ∧ h.IsList ax its.toArray) (fun i h => h.IsListIter I ax i ∧ h.IsList ax its.toArray) := {
    sub := W0.sub
    frame := W0.frame
    item := fun i s Q E hi st hQ => W0.item i s Q E hi st fun v h' tk hP st' hk => hQ v h' tk ⟨hP, st'⟩ hk
    go := fun i v s Q E hm hQ => by
      first | (refine x0_3 (hm) ?_; intro hP h1 h2; clear hm) | obtain ⟨hP, h1, h2⟩ := hm
      first | (refine x1_1 (hrefs v (List.mem_of_getElem? (by simpa using hP))) ?_; intro T e9z; subst e9z) | obtain ⟨T, rfl⟩ := hrefs v (List.mem_of_getElem? (by simpa using hP))
      exact wpAny_letOwnedTupleGo_listiter h1 (hQ s.heap hP ⟨h1, h2⟩ fun _ _ _ e => e)
    done := W0.done }
  have off0 : ∀ p ∈ news, p.1 ∉ [I] := fun p hp hI' => absurd (Heap.lt_size (N p (.tail _ hp)).1) (by rw [hI, List.mem_singleton.mp hI']; exact Nat.lt_irrefl _)
  have hLf : env.locals ∉ [I, ax] := fun hm => by
    rcases List.mem_cons.mp hm with e | hm
    · have := F.ns.lt; rw [hI, e] at this; exact Nat.lt_irrefl _ this
    · exact D.2.1 (List.mem_singleton.mp hm).symm
  have hfr : ∀ b ∈ [I, ax], h₀.get? b = none := fun b hb => by
    rcases List.mem_cons.mp hb with rfl | hb
    · rw [← hI]; exact next_is_new F
    · rw [List.mem_singleton.mp hb]; exact D.2.2
  refine i10_11 I [I, ax] [I] (its.toArray.size) _ _ _ m₀ news (fun _ m nx => nx = news ∧ ∀ z, ns.contains z = false → m z = m₀ z) rfl W hLf (fun b hb => hfr b (W.sub b hb)) off0 ⟨⟨_, by rw [← hI]; exact Heap.get?_push_size _ rfl, rfl, rfl⟩, ht.push _⟩ (F.push _) (fun p hp => ⟨Heap.get?_push_of_some _ (N p (.tail _ hp)).1, (N p (.tail _ hp)).2⟩) ⟨rfl, fun _ _ => rfl⟩ ?_ ?_
  · rintro i v m₁ nx hh' tk' own hin hP ⟨rfl, hm⟩ hoff hown hat hcv ⟨⟨o1, e1, q1⟩, ⟨o2, e2, q2⟩⟩ F₁ N₁
    have N₂ : News h₀ env.locals hh' (nx ++ [(I, o1), (ax, o2)]) := fun p hp => by
      rcases List.mem_append.mp hp with hp | hp
      · exact N₁ p (List.mem_append_right _ hp)
      · rcases List.mem_cons.mp hp with rfl | hp
        · exact ⟨e1, fun e => hLf (by rw [show I = env.locals from e]; exact .head _), hfr I (.head _)⟩
        · rw [List.mem_singleton.mp hp]
          exact ⟨e2, D.2.1, D.2.2⟩
    rw [ovr_of hm] at F₁
    have hnx : ∀ p ∈ nx, @Ne Nat p.1 I := fun p hp e => hoff p hp (List.mem_singleton.mpr e)
    refine wpAny_mono (turn i v m₁ I o2 o1 hh' tk' (by simpa using hP) hnx F₁ N₂) (fun _ s₂ p => wpAny_mono p (fun f s₃ p => ?_) fun _ _ e => e) fun _ _ e => e
    have fin : GrowEnd h₀ env.locals (fun m' n' => n' = nx ∧ ∀ z, ns.contains z = false → m' z = m₀ z) [(I, o1), (ax, o2)] I { s with heap := hh', toks := tk' } s₃ → LoopStepU h₀ env.locals [I] own (fun m' n' => n' = nx ∧ ∀ z, ns.contains z = false → m' z = m₀ z) { s with heap := hh', toks := tk' } .next s₃ := by
      rintro ⟨h', tk, m', news', n', e, F', N', hn, ho, hne, hm'⟩
      refine ⟨rfl, h', tk, m', n', e, F', fun p hp => N' p ((List.mem_append.mp hp).elim (fun hp => ho p ?_) (hn p)), fun p hp hw => hne p hp (List.mem_singleton.mp hw), hm'⟩
      have h2 : hh'.get? p.1 = some p.2 := hat p hp
      rcases List.mem_cons.mp (hown p hp) with e | e
      · rw [e, e1] at h2
        have : p = (I, o1) := Prod.ext e (Option.some.inj h2).symm
        rw [this]; exact .head _
      · have e' := List.mem_singleton.mp e
        rw [e', e2] at h2
        have : p = (ax, o2) := Prod.ext e' (Option.some.inj h2).symm
        rw [this]; exact .tail _ (.head _)
    cases f with
    | ret v => exact p
    | brk => exact p
    | next => exact fin p
    | cont => exact fin p
  · intro h' tk m' news' F' N' _ qz0
    first | (refine x0_2 (qz0) ?_; intro e9z hm; clear qz0; subst e9z) | obtain ⟨rfl, hm⟩ := qz0
    refine done m' h' tk ?_ N'
    rw [← ovr_of hm]; exact F'
end
theorem upd_at {g h h' : Heap} {L d : Addr} {m : Str → Option Value} {o o' : Obj} {news news' : List (Addr × Obj)} (F : Fr g L h m) (N : News g L h news) (kp : KeepBut [d] h h') (hd : h'.get? d = some o') (U : Upd d o o' news news') : Fr g L h' m ∧ News g L h' news' := by
  first | (refine x2_4 (U.split) ?_; intro pre post e2z e3z a c; subst e2z; subst e3z) | obtain ⟨pre, post, rfl, rfl, a, c⟩ := U.split
  exact upd_back F N kp hd a c
section
variable {prog : Program} {w : World} {A : Around} {E : Value → Shared → Prop} {s : Shared} {h₀ : Heap} {L : Addr} {news : List (Addr × Obj)}
/-- a kind picked out of the two -/
theorem m_kind {value slice : PySem.Expr} {l : Addr} {t1 t2 : Tok} {n : Nat} {k : Int} {u : Tok} {Q : Value → Shared → Prop}
    (N : News h₀ L s.heap news) (hm : (l, listOf #[.str sI t1, .str sL t2] n) ∈ news) (h0 : 0 ≤ k) (h1 : k < 2) (h : ∀ kd t, kd = sI ∨ kd = sL → Q (.str kd t) s)
    (hs : subscripted slice false (.ref l) (.int k u) = operate [.ref l, .int k u] (getItem (.ref l) (.int k u)) := by with_unfolding_all rfl) :
    wpAny (model prog w) A (subscriptTail value slice (.ref l) (.int k u)) Q E s := by
  have hl : s.heap.IsList l #[.str sI t1, .str sL t2] := ⟨_, (N _ hm).1, rfl, n, rfl⟩
  rcases (show k = 0 ∨ k = 1 by omega) with rfl | rfl
  · exact tail_any hl.typeIs slot_list_getitem.lookup (wpAny_getItem_list hl (by omega) (by decide) (by rfl) (h _ _ (.inl rfl))) hs
  · exact tail_any hl.typeIs slot_list_getitem.lookup (wpAny_getItem_list hl (by omega) (by decide) (by rfl) (h _ _ (.inr rfl))) hs
/-- an item read at a written place -/
theorem m_at {value slice : PySem.Expr} {l : Addr} {its : List Value} {n : Nat} {k : Int} {u : Tok} {v : Value} {Q : Value → Shared → Prop}
    (N : News h₀ L s.heap news) (hm : (l, listOf its.toArray n) ∈ news) (h0 : 0 ≤ k) (hf : (its.length : Int) < 2 ^ 63) (hk : k.toNat < its.length) (hv : its[k.toNat]? = some v) (h : Q v s)
    (hs : subscripted slice false (.ref l) (.int k u) = operate [.ref l, .int k u] (getItem (.ref l) (.int k u)) := by with_unfolding_all rfl) :
    wpAny (model prog w) A (subscriptTail value slice (.ref l) (.int k u)) Q E s := by
  have hl : s.heap.IsList l its.toArray := isList_of N hm
  exact tail_any hl.typeIs slot_list_getitem.lookup (wpAny_getItem_list hl h0 (by omega) (by simpa using hv) h) hs
theorem notin2 {D r dl : Addr} {o1 o2 : Obj} (h1 : @Ne Nat r D) (h2 : @Ne Nat dl D) : D ∉ ([(r, o1), (dl, o2)] : List (Addr × Obj)).map (·.1) := fun hm => by
  simp only [List.map_cons, List.map_nil, List.mem_cons, List.not_mem_nil, or_false] at hm
  rcases hm with hm | hm
  · exact h1 hm.symm
  · exact h2 hm.symm
theorem fresh_D {H g h : Heap} {L D r dl : Addr} {o1 o2 oD : Obj} {nx : List (Addr × Obj)} (S : GSub H g (([(r, o1), (dl, o2)] : List (Addr × Obj)).map (·.1))) (N : News g L h ((D, oD) :: nx)) (h1 : @Ne Nat r D) (h2 : @Ne Nat dl D) : H.get? D = none := fresh_now S N (.head _) (notin2 h1 h2)
/-- a text -/
def IsStr (v : Value) : Prop := ∃ s t, v = .str s t
end
section
open LCg
variable {prog : Program} {w : World} {A : Around} {s : Shared} {h₀ : Heap} {L : Addr} {m : Str → Option Value} {env : Env}
/-- the turns of a list comprehension that turn nothing of the ledger -/
theorem comp_same {elt : PySem.Expr} {x : Str} {scope : Scope} {cl : List (Str × Addr)} {S : List (Addr × Obj) → Prop} {P : Nat → Value → Prop} {Fin : List Value → List (Addr × Obj) → Prop} {news : List (Addr × Obj)} {n : Nat} (P' : Value → Prop) (hS : S news)
    (turn : ∀ i ys v I oI C oC D m₂ h tk (E' : Value → Shared → Prop), i < n → P i v → NsObj oC m₂ → m₂ x = some v → Fr h₀ L h m → News h₀ L h ((I, oI) :: (C, oC) :: (D, lst ys) :: news) → Off3 I C D news → ((@Ne Nat I C) ∧ (@Ne Nat I D) ∧ (@Ne Nat C D)) →
      wpAny (model prog w) A (eval elt (compEnvC scope cl C env)) (CompEnd h₀ L m { s with heap := h, toks := tk } I oI C oC D (lst ys) (fun _ => True) (fun y nx' => nx' = news ∧ P' y)) E' { s with heap := h, toks := tk })
    (done : ∀ ys, ys.length = n → (∀ z ∈ ys, P' z) → Fin ys news) : CompRest prog w A h₀ L m env elt x scope cl s S P Fin n 0 [] news := by
  refine comp_inv n (fun i ys nx => nx = news ∧ ys.length = i ∧ ∀ z ∈ ys, P' z) ?_ ?_ n 0 [] news (Nat.zero_add _) ⟨rfl, rfl, fun _ h => nomatch h⟩
  · intro i ys nx v I oI C oC D m₂ h tk E' hi hP qz0
    first | (revert qz0; revert nx; refine y0_2 ?_; intro ez hz) | obtain ⟨rfl, ez, hz⟩ := qz0
    intro hC hx F N off ne
    refine wpAny_mono (turn i ys v I oI C oC D m₂ h tk E' hi hP hC hx F N off ne) (fun y s₂ hq => ?_) fun _ _ e => e
    obtain ⟨h₁, tk₁, nx', e, F₁, N₁, off₁, -, rfl, hy⟩ := hq
    exact ⟨h₁, tk₁, nx', e, F₁, N₁, off₁, hS, rfl, by simp [ez], cells_snoc hz hy⟩
  · intro ys nx qz0
    first | (revert qz0; revert nx; refine y0_2 ?_; intro ez hz) | obtain ⟨rfl, ez, hz⟩ := qz0
    exact done ys ez hz
end
/-- what stands in the parts of the heads: a Null or a Vector of texts -/
def PartOf (w : World) (tl : List (Addr × Obj)) (z : Value) : Prop :=
  (∃ x dx t1 t2 tk, z = .ref x ∧ (x, instObj 228 dx) ∈ tl ∧ (dx, ndict w t1 t2 tk) ∈ tl) ∨ ∃ x ss, z = .ref x ∧ Vec w tl x sC ss .none ∧ ss.length < 100 ∧ ∀ v ∈ ss, IsStr v
theorem PartOf.mono {w : World} {tl tl' : List (Addr × Obj)} {z : Value} (h : PartOf w tl z) (hs : ∀ p ∈ tl, p ∈ tl') : PartOf w tl' z := by
  rcases h with ⟨x, dx, t1, t2, tk, e, h1, h2⟩ | ⟨x, ss, e, h1, h2⟩
  · exact .inl ⟨x, dx, t1, t2, tk, e, hs _ h1, hs _ h2⟩
  · exact .inr ⟨x, ss, e, h1.mono hs, h2⟩
def shownAtom : Value → VD
  | .str s _ => .str s
  | .int i _ => .int i
  | _ => .none
theorem atoms_shown {w : World} {its : List Value} (h : ∀ z ∈ its, IsStr z ∨ Cell z) : ∀ (j : Nat) (hj : j < its.length) (h' : j < (its.map shownAtom).length), ViewOf w [] 0 its[j] (its.map shownAtom)[j] := fun j hj h' => by
  rw [List.getElem_map]
  rcases h _ (List.getElem_mem hj) with ⟨s, t, e⟩ | e | ⟨i, t, e⟩ <;> rw [e]
  · exact .str s t
  · exact .none
  · exact .int i t
theorem PartOf.src {w : World} {tl : List (Addr × Obj)} {z : Value} (h : PartOf w tl z) : ∃ V, SrcOf w tl 1 z V := by
  rcases h with ⟨x, dx, t1, t2, tk, rfl, h1, h2⟩ | ⟨x, ss, rfl, h1, h2, h3⟩
  · exact ⟨_, .null h1 h2⟩
  · exact ⟨_, .vec (kvs := []) (As := []) h1 (.inr (.inr rfl)) (by rw [List.length_map]) h2 (atoms_shown fun z hz => .inl (h3 z hz)) (.inl ⟨rfl, rfl⟩) (by decide) rfl fun j h => absurd h (Nat.not_lt_zero _)⟩
theorem two_src {w : World} {l : List (Addr × Obj)} {n : Nat} {q0 q1 : Value} {V0 V1 : VD} (h0 : SrcOf w l n q0 V0) (h1 : SrcOf w l n q1 V1) : ∀ (j : Nat) (h : j < [q0, q1].length) (h' : j < [V0, V1].length), SrcOf w l n [q0, q1][j] [V0, V1][j]
  | 0, _, _ => h0
  | 1, _, _ => h1
  | j + 2, h, _ => absurd h (by simp)
theorem one_src {w : World} {l : List (Addr × Obj)} {n : Nat} {k : Str} {q0 : Value} {V0 : VD} (h0 : SrcOf w l n q0 V0) : ∀ (j : Nat) (h : j < [(k, q0)].length) (h' : j < [(k, V0)].length), SrcOf w l n [(k, q0)][j].2 [(k, V0)][j].2
  | 0, _, _ => h0
  | j + 1, h, _ => absurd h (by simp)
theorem two_at {a b v : Value} {i : Nat} (h : [a, b][i]? = some v) : v = a ∨ v = b := by
  have := List.mem_of_getElem? h
  rcases List.mem_cons.mp this with e | e
  · exact .inl e
  · exact .inr (List.mem_singleton.mp e)
theorem two_of {vs : List Value} (h : vs.length = 2) : ∃ p q, vs = [p, q] := by
  cases vs with
  | nil => cases h
  | cons p r => cases r with
    | nil => cases h
    | cons q r => cases r with
      | nil => exact ⟨p, q, rfl⟩
      | cons _ _ => cases h
theorem next_rule {w : World} {loose : List Str} {mean : ExcName → Option Value} {mg mb : Str → Option Value} {H₀ : Heap} (G : Gr w loose mean mg mb H₀) {g : Heap} {L : Addr} {m : Str → Option Value} {news : List (Addr × Obj)} {gg : Obj → List (Addr × Obj)} {r n : Nat} {its : List Value} {xs : List Int} {dp un : Nat} {fr : Option (List Env)} {gd : Option (List Code)} {s : Shared} {Q E : Value → Shared → Prop}
    (F : Fr g L s.heap m) (N : News g L s.heap news) (st : H₀.StaysIn g) (U : UpdF r (listOf its.toArray n) news gg) (hi : IntsAre its xs) (hn : its.length < 200) (rm : dp + 2 < recursionLimit ∧ un + 20 < cLine)
    (k : ∀ h' tk', True → ∀ i t its' xs' n', True → IntsAre its' xs' → Fr g L h' m → News g L h' (gg (listOf its'.toArray n')) → its'.length < 200 → Q (.int i t) { s with heap := h', toks := tk' }) :
    wpAny (model PG w) (mkA dp un fr gd) (call (.ref 480) [.ref r]) Q E s := by
  obtain ⟨pre, post, e1, e2, a, c⟩ := U.split
  subst e1
  refine next_ctr G (val_now st N) (List.mem_append_right _ (.head _)) hi hn dp un fr gd s Q E rfl (stays_now st F) rm.1 rm.2 ?_
  intro res h' tk' kp ps
  obtain ⟨i, t, its', xs', n', e, hg, hi', hl⟩ := ps
  subst e
  have B := upd_back F N kp hg a c
  exact k h' tk' trivial i t its' xs' n' trivial hi' B.1 (by rw [e2]; exact B.2) (Nat.lt_of_le_of_lt hl hn)
local macro_rules | `(tactic| walk_at "call ref") => `(tactic| ((with_reducible show wpAny _ _ (call (Value.ref 480) [Value.ref _]) _ _ _); k_dflt (k_dflt (refine' next_rule ‹_› ?F ?N ?st ?U ?hi ?hn ?r ?_; (case F => k_asm); (case N => k_asm); (case U => k_updF); (case st => assumption); (case hi => assumption); (case hn => assumption); (case r => walk_at "m_rm")); intro h9 tk9 kp9 i9 t9 its9 xs9 n9 g9 hi9 F' N' hl9; (try dsimp only at N'); (try dsimp only))))
local macro_rules | `(tactic| walk_at "m_chr") => `(tactic| (walk_at "m_comp"; k_steps; unfold Stop; (rename IsRange _ _ _ _ _ _ _ _ => R9); (try simp only [Int.toNat_zero, Int.toNat_one, List.getD_cons_zero, List.getD_cons_succ] at R9); (rename Fr _ _ _ _ => F9); (rename News _ _ _ _ => N9); (refine' LCg.CompSrc.range (n := Int.toNat _) (by rfl) F9 N9 R9 (range_small _ (ar_a ‹_› rfl) (ar_b ‹_›)) (range_size _ (ar_b ‹_›)) (by rw [PySem.sizeLine_eq]; exact ar_nat (ar_a ‹_› rfl)) ?_); intro g9; clear R9; (refine' comp_same IsStr trivial ?tu ?_); (case tu => (rintro i9 ys9 v9 I9 oI9 C9 oC9 D9 m9 h9 tk9 E9 hi9 ⟨tv9, ev9⟩ hC9 hx9 F8 N8 off9 ne9; subst ev9; clear F9 N9; (try dsimp only); k_steps; unfold Stop; (refine comp_end ‹_› ‹_› (by walk_at "m_csub") off9 trivial ⟨rfl, ⟨_, _, rfl⟩⟩))); (intro ys9 ez9 hz9; unfold LCg.FinE; intro D9 h9 tk9 F8 N8 off9; (have fD9 := fresh_D ‹_› N8 (off1_ne off9 (_, _) (by k_mem)) (off1_ne off9 (_, _) (by k_mem))); (have offh9 := Hid.mk off9); clear off9; clear F9 N9; (try dsimp only))))
local macro_rules | `(tactic| k_ne) => `(tactic| first | (refine neN ?_; (try dsimp only); first | with_reducible assumption | exact Nat.ne_of_lt (by walk_at "m_lt2") | exact Nat.ne_of_gt (by walk_at "m_lt2") | fail "no fact") | exact off1_ne (Hid.out ‹_›) (_, _) (by k_mem) | exact Ne.symm (off1_ne (Hid.out ‹_›) (_, _) (by k_mem)))
local macro_rules | `(tactic| walk_at "m_tail") => `(tactic| (repeat (first | assumption | apply List.mem_cons_of_mem)))
local macro_rules | `(tactic| walk_at "m_tailm") => `(tactic| (repeat (first | (with_reducible assumption) | apply List.mem_cons_of_mem)))
local macro_rules | `(tactic| walk_at "call builtin:chr") => `(tactic| (refine chr_of_range (by first | exact ar_chr0 ‹_› | exact ar_chr00) (by first | exact ar_chr ‹_› ‹_› ‹_› | exact ar_chrL ‹_› rfl ‹_›) ?_; (try dsimp only)))
section
variable {prog : Program} {w : World} {K : Type} [DecidableEq K] {knd : KeyKind prog w K} {A : Around} {E : Value → Shared → Prop} {s : Shared} {h₀ : Heap} {L d : Addr} {m : Str → Option Value} {news : List (Addr × Obj)} {g : Obj → List (Addr × Obj)} {kvs : List (K × Value)} {o : Obj} {k : K}
/-- a pair taken out of a dict, whatever stands there -/
theorem pop_any {key v : Value} {Q : Value → Shared → Prop} (hkey : knd.is k key = true) (hpart : (keyPart key).isSome = true) (F : Fr h₀ L s.heap m) (N : News h₀ L s.heap news) (U : UpdF d o news g) (hd : o.IsDictOf knd kvs) (hv : valueAt kvs k = some v) (hsz : kvs.length ≤ sizeLine)
    (h : ∀ h' o', Fr h₀ L h' m → News h₀ L h' (g o') → o'.IsDictOf knd (without kvs k) → Q v { s with heap := h', toks := s.toks + 1 }) : wpAny (model prog w) A (call (.builtin "dict.pop") [.ref d, key]) Q E s := by
  first | (refine x2_4 (U.split) ?_; intro pre post e9z hg a b; subst e9z) | obtain ⟨pre, post, rfl, hg, a, b⟩ := U.split
  have hm := N (d, o) (List.mem_append_right _ (.head _))
  have hD : s.heap.DictOf knd d kvs := Heap.dictOf_iff.mpr ⟨o, hm.1, hd⟩
  refine call_meetsIn PySem.F.slot_dict_pop hD.typeIs PySem.F.entry_dict_pop (PySem.F.args_dict_pop_2 _ _) (meets_dict_pop_there knd d hkey [] (.inl rfl) hpart) ⟨kvs, v, hD, hsz, hv, fun h' hmm hs => ?_⟩
  first | (refine x1_2 (Heap.dictOf_iff.mp hmm) ?_; intro o' ho' hd') | obtain ⟨o', ho', hd'⟩ := Heap.dictOf_iff.mp hmm
  exact h h' o' (F.change hs hm.2.1 hm.2.2) (hg o' ▸ N.setIn a b hs ho') hd'
end
/-- how a matrix's dims are shown -/
def dimV (a b : Int) : VD := .tup [.str sI, .lst [.int a, .int b], .dct []]
/-- how a matrix's row of attributes is shown -/
def rowV (a b : Int) : Option VD → List (Str × VD)
  | none => [(sDim, dimV a b)]
  | some V => [(sDim, dimV a b), (sDn, V)]
section
variable {w : World} {l : List (Addr × Obj)}
theorem dim_src {n : Nat} {y : Addr} {a b : Int} {ta tb : Tok} (h : Vec w l y sI [.int a ta, .int b tb] .none) : SrcOf w l (n + 1) (.ref y) (dimV a b) :=
  .vec (kvs := []) (As := []) h (.inl rfl) rfl (by show 2 < 100; decide) (fun j hj h' => match j, hj, h' with
    | 0, _, _ => .int a ta
    | 1, _, _ => .int b tb
    | j + 2, hj, _ => absurd hj (by simp)) (.inl ⟨rfl, rfl⟩) (by decide) rfl fun j h => absurd h (Nat.not_lt_zero _)
/-- what stands under dimnames, and how it is shown -/
def HeadV (w : World) (l : List (Addr × Obj)) : Option Addr → Option VD → Prop
  | none, none => True
  | some z, some V => SrcOf w l 2 (.ref z) V
  | _, _ => False
theorem HeadV.mono {l' : List (Addr × Obj)} {o : Option Addr} {V : Option VD} (h : HeadV w l o V) (hs : ∀ p ∈ l, p ∈ l') : HeadV w l' o V := by
  cases o <;> cases V <;> first | exact h | exact SrcOf.mono h hs
theorem cells_atom {zs : List Value} (h : ∀ z ∈ zs, Cell z) : ∀ z ∈ zs, IsStr z ∨ Cell z := fun z hz => .inr (h z hz)
theorem res_src {z d y : Addr} {k : Str} {zs : List Value} {a b : Int} {o : Option Addr} {V : Option VD} {ta tb : Tok} (hv : Vec w l z k zs (.ref d)) (hk : k = sI ∨ k = sL) (hc : ∀ z ∈ zs, Cell z) (hlen : zs.length < 100) (hd : Dct w l d ((sDim, .ref y) :: dnRow o none)) (hy : Vec w l y sI [.int a ta, .int b tb] .none) (hh : HeadV w l o V) :
    SrcOf w l 3 (.ref z) (.tup [.str k, .lst (zs.map shownAtom), .dct (rowV a b V)]) := by
  have hk' : k = sI ∨ k = sL ∨ k = sC := hk.elim .inl fun h => .inr (.inl h)
  cases o with
  | none =>
    cases V with
    | none => exact .vec hv hk' (by rw [List.length_map]) hlen (atoms_shown (cells_atom hc)) (.inr ⟨d, rfl, hd⟩) (by show 1 < 10; decide) rfl (one_src (dim_src hy))
    | some V => exact hh.elim
  | some h =>
    cases V with
    | none => exact hh.elim
    | some V =>
      exact .vec hv hk' (by rw [List.length_map]) hlen (atoms_shown (cells_atom hc)) (.inr ⟨d, rfl, hd⟩) (by show 2 < 10; decide) rfl fun j hj h' => match j, hj, h' with
        | 0, _, _ => dim_src hy
        | 1, _, _ => hh
        | j + 2, hj, _ => absurd hj (by simp [dnRow])
end
local macro_rules | `(tactic| walk_at "m_none42") => `(tactic| skip)
theorem fresh_M1 : True := by
  w_top off
  trivial
section
variable {w : World} {loose : List Str} {mean : ExcName → Option Value} {mg mb : Str → Option Value} {H₀ H : Heap}
local macro_rules | `(tactic| walk_at "eval ListComp") => `(tactic| refine Stop.go ?_)
local macro_rules | `(tactic| walk_at "exec For Name Name cons nil") => `(tactic| refine Stop.go ?_)
local macro_rules | `(tactic| k_all) => `(tactic| assumption)
local macro_rules | `(tactic| walk_at "eval ListComp") => `(tactic| ((with_reducible show wpAny _ _ (eval (Expr.ListComp (Expr.Call (Expr.Name _ _) [Expr.BinOp _ _ _ _] _ _) _ _ _) _) _ _ _); walk_at "m_chr"))
local macro_rules | `(tactic| walk_at "subscriptTail Name Constant ref int") => `(tactic| (k_here; walk_at "s_si"; k_dflt (refine' m_at ?N ?m ?a ?b ?c ?d ?_; (case N => k_asm); (case m => k_mem); (case d => rfl); (case a => decide); (case b => (simp only [List.length_cons, List.length_nil]; omega)); (case c => exact Nat.le_of_ble_eq_true rfl); k_whole)))
local macro_rules | `(tactic| walk_at "subscriptTail") => `(tactic| (k_here; walk_at "s_si"; k_dflt (refine' m_kind ?N ?m ?a ?b ?_; (case N => k_asm); (case m => k_mem); (case a => omega); (case b => omega); k_whole); intro kd9 tk9 hkd9))
/-- truths all -/
def BitsAre (zs : List Value) : Prop := ∃ ks, IntsAre zs ks ∧ ∀ k ∈ ks, 0 ≤ k ∧ k ≤ 5
theorem BitsAre.snoc {zs : List Value} {k : Int} {t : Tok} (h : BitsAre zs) (h0 : 0 ≤ k) (h1 : k ≤ 5) : BitsAre (zs ++ [.int k t]) := by
  first | (refine x1_2 (h) ?_; intro ks hi hk; clear h) | obtain ⟨ks, hi, hk⟩ := h
  exact ⟨ks ++ [k], ints_snoc hi, fun j hj => (List.mem_append.mp hj).elim (hk j) fun hj => by rw [List.mem_singleton.mp hj]; exact ⟨h0, h1⟩⟩
/-- a matrix: its kind, its items, its row of attributes d with the dims at y, and what stands under dimnames -/
structure Mat (w : World) (l : List (Addr × Obj)) (x : Addr) (k : Str) (its : List Value) (d y : Addr) (a b : Int) (o : Option Addr) : Prop where
  vec : Vec w l x k its (.ref d)
  kind : k = sI ∨ k = sL
  bits : BitsAre its
  len : (its.length : Int) = a * b
  dct : Dct w l d ((sDim, .ref y) :: dnRow o none)
  dim : ∃ ta tb, Vec w l y sI [.int a ta, .int b tb] .none
  heads : ∀ z, o = some z → ∃ V, SrcOf w l 2 (.ref z) V
/-- what a call of `_law_matrix` gives -/
inductive MatMade (w : World) (H h' : Heap) (r : Addr) (a b : Int) (res : Value) : Prop where
  | mk (tl : List (Addr × Obj)) (x : Addr) (k : Str) (its : List Value) (d y : Addr) (o : Option Addr) (h1 : res = .ref x) (h2 : ∀ p ∈ tl, H.get? p.1 = none ∧ h'.get? p.1 = some p.2) (h3 : Mat w tl x k its d y a b o) (its' : List Value) (xs' : List Int) (n' : Nat) (h4 : h'.get? r = some (listOf its'.toArray n')) (h5 : IntsAre its' xs') (h6 : its'.length < 200) : MatMade w H h' r a b res
local macro_rules | `(tactic| walk_at "exec If") => `(tactic| ((with_reducible show wpAny _ _ (exec (Stmt.If (PySem.Expr.BoolOp _ _ _) _ _ _) _) _ _ _); (fail_if_success (with_reducible show wpAny _ _ _ (Cut _ _ _ _) _ _)); refine Stop.go ?_))
set_option maxHeartbeats 6000000 in
theorem mat_ctr (G : Gr w loose mean mg mb H₀) {l : List (Addr × Obj)} {r n dl nd : Nat} {its : List Value} {xs : List Int} {a b N fi : Int} {ta tb tf : Tok} (V : Val H₀ H l) (hr : (r, listOf its.toArray n) ∈ l) (hi : IntsAre its xs) (hn : its.length < 200)
    (hdl : (dl, listOf [.int a ta, .int b tb].toArray nd) ∈ l) (hne : @Ne Nat dl r) (ha : 1 ≤ a ∧ a ≤ 3) (hb : 1 ≤ b ∧ b ≤ 3) (hN : a * b = N) (h1 : 1 ≤ N) (hN9 : N ≤ 9) (hf : 0 ≤ fi ∧ fi ≤ 8) :
    Ctr w H₀ 490 [.ref r, .ref dl, .int fi tf] 20 200 H [r] (fun h' res => MatMade w H h' r a b res) := by
  obtain ⟨ha1, ha2⟩ := ha
  obtain ⟨hb1, hb2⟩ := hb
  intro dp un fr gd s Q E eH st hdp hun hret
  subst eH
  have hvE : Val H₀ s.heap _ := V.pick hr (V.pick hdl Val.nil)
  walk_at "m_fill"
  refine wpAny_call ?_
  k_dflt (refine' enterC (binds := [(Str.ofString "row", .ref r), (Str.ofString "dims_x", .ref dl), (Str.ofString "first", .int fi tf)]) G st _ hvE ?k6 ?k7 ?k8 ?k9 ?kB ?kD ?_ ?c2 ?c3 ?c4; walk_at "m_restC")
  intro g L h0 tk0 cells F N Y X T stg S l1
  refine hideQ (Q := Q) (fun _ _ x => x) ?_
  intro Q9 hQ9
  replace hret := hideR hQ9 hret
  clear hQ9
  show (let e9 := envOfC _ _ _ _ _; wpAny _ (Around.deeper _ e9) (execs _ e9) _ _ _)
  intro e9
  (try k_lt l1)
  k_cells Y
  (try simp only [List.cons_append, List.nil_append] at N)
  (try dsimp only)
  (try k_fold)
  rename_i oR oF dR dF
  k_steps
  unfold Stop
  walk_at "m_comp"
  k_steps
  unfold Stop
  rename IsRange _ _ _ _ _ _ _ _ => R9
  rename Fr _ _ _ _ => F9
  rename News _ _ _ _ => N9
  simp only [Int.toNat_zero, Int.toNat_one, List.getD_cons_zero, List.getD_cons_succ] at R9
  rw [hN] at R9
  refine LCg.CompSrc.range (n := N.toNat) (by rfl) F9 N9 R9 (range_small _ (Int.lt_of_le_of_lt hN9 (by decide)) (Int.le_trans (by decide) h1)) (range_size _ (Int.le_trans (by decide) h1)) (by rw [PySem.sizeLine_eq]; exact ar_nat (Int.lt_of_le_of_lt hN9 (by decide))) ?_
  intro g'
  rename_i lK hA FA NA lA hB tkB kpB iB tB its1 xs1 n1 gB hi1 FB NB hl1 k2 t2 b2 c2 kd tkd hkd hC tkC u1 u2 u3 KC
  clear gB FA NA FB NB KC kpB
  refine comp_inv N.toNat (fun i ys nx => ∃ (its : List Value) (xs : List Int) (n : Nat), nx = [(lK, listOf #[.str sI _, .str sL _] 0), (L + 1 + 1, oR), (L + 1, oF), (r, listOf its.toArray n), (dl, listOf [.int a ta, .int b tb].toArray nd)] ∧ IntsAre its xs ∧ its.length < 200 ∧ ys.length = i ∧ BitsAre ys) ?_ ?_ _ 0 [] _ (Nat.zero_add _) ⟨its1, xs1, n1, rfl, hi1, hl1, rfl, [], .nil, fun _ h => nomatch h⟩
  · intro i ys nx v I oI C oC D m2 h tk E' hi' qz0
    first | (refine x1_1 (qz0) ?_; intro tv e9z; clear qz0; subst e9z) | obtain ⟨tv, rfl⟩ := qz0
    intro qz1
    first | (revert qz1; revert nx; refine y3_4 ?_; intro its2 xs2 n2 hi2 hl2 ez hz) | obtain ⟨its2, xs2, n2, rfl, hi2, hl2, ez, hz⟩ := qz1
    intro hC hx F2 N2 off ne
    have hnI : @Ne Nat I r := Ne.symm (off.mem (r, _) (by k_mem)).1
    have hnC : @Ne Nat C r := Ne.symm (off.mem (r, _) (by k_mem)).2.1
    have hnD : @Ne Nat D r := Ne.symm (off.mem (r, _) (by k_mem)).2.2
    clear F9 N9 R9
    k_steps
    unfold Stop
    refine comp_end (by assumption) (by assumption) (by walk_at "m_csub") (by exact off) trivial ⟨_, _, _, rfl, by assumption, by assumption, by simp [ez], hz.snoc (by omega) (by omega)⟩
  · intro ys nx qz0
    first | (revert qz0; revert nx; refine y3_4 ?_; intro its2 xs2 n2 hi2 hl2 ez hz) | obtain ⟨its2, xs2, n2, rfl, hi2, hl2, ez, hz⟩ := qz0
    unfold LCg.FinE
    intro D h tk F2 N2 off
    have fl : s.heap.get? D = none := fresh_D S N2 (off1_ne off (_, _) (by k_mem)) (off1_ne off (_, _) (by k_mem))
    have offh := Hid.mk off
    clear off
    clear F9 N9 R9
    (try dsimp only)
    k_steps
    · unfold Stop
      refine' For_invVF (by assumption) rfl rfl ?_
      k_steps
      unfold Stop
      rename Fr _ _ _ _ => F9
      rename News _ _ _ _ => N9
      rename_i xv dv s1 s2 s3 s4 s5 q1 q2 q3 q4 q5 q6 dd q7 q8 lod q9 q10 Ld cd q11 q12 y dy u1 u2 u3 u4 u5 q13 q14 q15 q16 q17 od hod q18 q19 q20 q21 kpq i0 t0 its3 xs3 n3 q22 hi3 hl3 k3 t3 b3 c3 a3 pl q23 lpl q24
      have hf0 : ∀ p ∈ ([(y, instObj 257 dy), (dy, vdict w u1 u2 u3 u4 u5 sI (q6 + 1) Ld .none), (Ld, listOf [.int a ta, .int b tb].toArray cd), (D, LCg.lst ys)] : List (Addr × Obj)), s.heap.get? p.1 = none ∧ @Ne Nat p.1 r ∧ @Ne Nat p.1 pl ∧ @Ne Nat p.1 dd :=
        faC (⟨by walk_at "m_fresh", by k_ne, by k_ne, by k_ne⟩) (faC (⟨by walk_at "m_fresh", by k_ne, by k_ne, by k_ne⟩) (faC (⟨by walk_at "m_fresh", by k_ne, by k_ne, by k_ne⟩) (faC (⟨fl, by k_ne, by k_ne, by k_ne⟩) (List.forall_mem_nil _))))
      have fxv : s.heap.get? xv = none := by walk_at "m_fresh"
      have fdv : s.heap.get? dv = none := by walk_at "m_fresh"
      have fdd : s.heap.get? dd = none := by walk_at "m_fresh"
      have fpl : s.heap.get? pl = none := by walk_at "m_fresh"
      have N10 := news_sub (l' := (dl, listOf [.int a ta, .int b tb].toArray nd) :: (pl, listOf ([] : List Value).toArray 0) :: (L + 1 + 1, oR) :: (L + 1, oF) :: (r, listOf its3.toArray n3) :: (dl, listOf [.int a ta, .int b tb].toArray nd) :: (dd, od) :: (xv, instObj 257 dv) :: (dv, vdict w s1 s2 s3 s4 s5 kd tkd D (.ref dd)) :: (y, instObj 257 dy) :: (dy, vdict w u1 u2 u3 u4 u5 sI (q6 + 1) Ld .none) :: (Ld, listOf [.int a ta, .int b tb].toArray cd) :: (D, LCg.lst ys) :: []) N9 (by repeat (first | walk_at "m_fa" | exact List.forall_mem_nil _))
      clear N9
      refine list_grow [Str.ofString "extent", Str.ofString "names"] (fun i nx => ∃ (tl : List (Addr × Obj)) (vs : List Value) (c : Nat) (it : List Value) (xi : List Int) (ni : Nat), nx = (pl, listOf vs.toArray c) :: (L + 1 + 1, oR) :: (L + 1, oF) :: (r, listOf it.toArray ni) :: (dl, listOf [.int a ta, .int b tb].toArray nd) :: (dd, od) :: (xv, instObj 257 dv) :: (dv, vdict w s1 s2 s3 s4 s5 kd tkd D (.ref dd)) :: tl ∧
        (∀ p ∈ ([(y, instObj 257 dy), (dy, vdict w u1 u2 u3 u4 u5 sI (q6 + 1) Ld .none), (Ld, listOf [.int a ta, .int b tb].toArray cd), (D, LCg.lst ys)] : List (Addr × Obj)), p ∈ tl) ∧ (∀ p ∈ tl, s.heap.get? p.1 = none ∧ @Ne Nat p.1 r ∧ @Ne Nat p.1 pl ∧ @Ne Nat p.1 dd) ∧ IntsAre it xi ∧ it.length < 200 ∧ vs.length = i ∧ ∀ z ∈ vs, PartOf w tl z) rfl F9 N10 ⟨_, [], 0, its3, xs3, n3, rfl, (fun p hp => hp), hf0, hi3, hl3, rfl, (fun _ h => nomatch h)⟩ ?_ ?_
      · intro i v u I ot' it nx h tk hv qz0
        first | (revert qz0; revert nx; refine y6_6 ?_; intro tl vs c itr xsr nr hsub hfr hir hlr hvl hvs) | obtain ⟨tl, vs, c, itr, xsr, nr, rfl, hsub, hfr, hir, hlr, hvl, hvs⟩ := qz0
        intro hnI F3 N3
        have hIr : @Ne Nat I r := Ne.symm (hnI _ (.tail _ (.tail _ (.tail _ (.head _)))))
        have hIp : @Ne Nat I pl := Ne.symm (hnI _ (.head _))
        have hi2 : i < 2 := (List.getElem?_eq_some_iff.mp hv).1
        have hvs2 : vs.length < 2 := hvl ▸ hi2
        have hkr : ∀ p ∈ tl, p.1 ≠ r := fun p hp => (hfr p hp).2.1
        have hkp : ∀ p ∈ tl, p.1 ≠ pl := fun p hp => (hfr p hp).2.2.1
        obtain ⟨e, te, rfl, he⟩ : ∃ e te, v = .int e te ∧ 1 ≤ e ∧ e ≤ 3 := (two_at hv).elim (fun h => ⟨a, ta, h, ha1, ha2⟩) fun h => ⟨b, tb, h, hb1, hb2⟩
        obtain rfl : ot' = listOf [.int a ta, .int b tb].toArray nd := Option.some.inj ((N3 (dl, ot') (List.mem_append_right _ (.tail _ (.head _)))).1.symm.trans (N3 (dl, listOf [.int a ta, .int b tb].toArray nd) (List.mem_append_left _ (.tail _ (.tail _ (.tail _ (.tail _ (.head _))))))).1)
        have N4 := news_sub (l' := (pl, listOf vs.toArray c) :: (L + 1 + 1, oR) :: (L + 1, oF) :: (r, listOf itr.toArray nr) :: (I, it) :: (dl, listOf [.int a ta, .int b tb].toArray nd) :: (dd, od) :: (xv, instObj 257 dv) :: (dv, vdict w s1 s2 s3 s4 s5 kd tkd D (.ref dd)) :: tl) N3 (by
          refine faC (.head _) (faC (.tail _ (.head _)) (faC (.tail _ (.tail _ (.head _))) (faC (.tail _ (.tail _ (.tail _ (.head _)))) (faC (List.mem_append_right _ (.head _)) (faC (List.mem_append_right _ (.tail _ (.head _))) (fun p hp => List.mem_append_left _ ?_))))))
          repeat (first | (with_reducible exact hp) | apply List.mem_cons_of_mem))
        clear N3 F9 N10
        k_steps
        unfold Stop
        walk_at "m_chr"
        k_steps
        · rename_i z1 z2 z3 z4 z5 itA xiA niA z6 hiA hlA z7 z8 z9 z10 z11 xn dn v1 v2 v3 z12 z13 lA lB hB FB NB
          rw [List.push_toArray] at NB
          show GrowEnd _ _ _ _ _ _ _
          refine ⟨_, _, _, _, (pl, listOf (vs ++ [Value.ref xn]).toArray (c + 1)) :: (L + 1 + 1, oR) :: (L + 1, oF) :: (r, listOf itA.toArray niA) :: (dl, listOf [.int a ta, .int b tb].toArray nd) :: (dd, od) :: (xv, instObj 257 dv) :: (dv, vdict w s1 s2 s3 s4 s5 kd tkd D (.ref dd)) :: (xn, instObj 228 dn) :: (dn, ndict w v1 v2 v3) :: tl, rfl, FB, NB, ?_, ?_, ?_,
            ⟨(xn, instObj 228 dn) :: (dn, ndict w v1 v2 v3) :: tl, vs ++ [Value.ref xn], c + 1, itA, xiA, niA, rfl, fun p hp => .tail _ (.tail _ (hsub p hp)), ?_, hiA, hlA, by simp [hvl], cells_snoc (fun z hz => (hvs z hz).mono fun p hp => .tail _ (.tail _ hp)) (.inl ⟨xn, dn, v1, v2, v3, rfl, .head _, .tail _ (.head _)⟩)⟩, ?_⟩
          · repeat walk_at "m_fa"
            exact fun p hp => (by walk_at "m_tail")
          · repeat (first | walk_at "m_fa" | exact List.forall_mem_nil _)
          · refine faC (hnI (pl, listOf vs.toArray c) (.head _)) (faC (hnI _ (.tail _ (.head _))) (faC (hnI _ (.tail _ (.tail _ (.head _)))) (faC (hnI (r, listOf itr.toArray nr) (.tail _ (.tail _ (.tail _ (.head _))))) (faC (hnI _ (.tail _ (.tail _ (.tail _ (.tail _ (.head _)))))) (faC (hnI _ (.tail _ (.tail _ (.tail _ (.tail _ (.tail _ (.head _))))))) (faC (hnI _ (.tail _ (.tail _ (.tail _ (.tail _ (.tail _ (.tail _ (.head _)))))))) (faC (hnI _ (.tail _ (.tail _ (.tail _ (.tail _ (.tail _ (.tail _ (.tail _ (.head _))))))))) (faC (by k_ne) (faC (by k_ne) (fun p hp => hnI p (by walk_at "m_tail")))))))))))
          · exact faC (⟨by walk_at "m_fresh", by k_ne, by k_ne, by k_ne⟩) (faC (⟨by walk_at "m_fresh", by k_ne, by k_ne, by k_ne⟩) (hfr))
          · walk_at "m_names2"
        · rename_i tkK h3x tk1x t1x u1x v1x aK g9x ysA ezA hzA DA z1 z2 fDA ofA xn dn v1 v2 v3 v4 v5 z5 z6 lA lB z7 z8 z9 z10 z11 z12 z13 itA xiA niA z15 hiA hlA z16 z17 z18 z19 z20 hB FB NB
          rw [List.push_toArray] at NB
          show GrowEnd _ _ _ _ _ _ _
          refine ⟨_, _, _, _, (pl, listOf (vs ++ [Value.ref xn]).toArray (c + 1)) :: (L + 1 + 1, oR) :: (L + 1, oF) :: (r, listOf itA.toArray niA) :: (dl, listOf [.int a ta, .int b tb].toArray nd) :: (dd, od) :: (xv, instObj 257 dv) :: (dv, vdict w s1 s2 s3 s4 s5 kd tkd D (.ref dd)) :: (xn, instObj 257 dn) :: (dn, vdict w v1 v2 v3 v4 v5 sC tkK DA .none) :: (DA, LCg.lst ysA) :: tl, rfl, FB, NB, ?_, ?_, ?_,
            ⟨(xn, instObj 257 dn) :: (dn, vdict w v1 v2 v3 v4 v5 sC tkK DA .none) :: (DA, LCg.lst ysA) :: tl, vs ++ [Value.ref xn], c + 1, itA, xiA, niA, rfl, fun p hp => .tail _ (.tail _ (.tail _ (hsub p hp))), ?_, hiA, hlA, by simp [hvl], cells_snoc (fun z hz => (hvs z hz).mono fun p hp => .tail _ (.tail _ (.tail _ hp))) (.inr ⟨xn, ysA, rfl, ⟨dn, v1, v2, v3, v4, v5, tkK, DA, _, .head _, .tail _ (.head _), .tail _ (.tail _ (.head _))⟩, ar_hun ezA (ar_c ‹_› rfl), hzA⟩)⟩, ?_⟩
          · repeat walk_at "m_fa"
            exact fun p hp => (by walk_at "m_tail")
          · repeat (first | walk_at "m_fa" | exact List.forall_mem_nil _)
          · refine faC (hnI (pl, listOf vs.toArray c) (.head _)) (faC (hnI _ (.tail _ (.head _))) (faC (hnI _ (.tail _ (.tail _ (.head _)))) (faC (hnI (r, listOf itr.toArray nr) (.tail _ (.tail _ (.tail _ (.head _))))) (faC (hnI _ (.tail _ (.tail _ (.tail _ (.tail _ (.head _)))))) (faC (hnI _ (.tail _ (.tail _ (.tail _ (.tail _ (.tail _ (.head _))))))) (faC (hnI _ (.tail _ (.tail _ (.tail _ (.tail _ (.tail _ (.tail _ (.head _)))))))) (faC (hnI _ (.tail _ (.tail _ (.tail _ (.tail _ (.tail _ (.tail _ (.tail _ (.head _))))))))) (faC (by k_ne) (faC (by k_ne) (faC (by k_ne) (fun p hp => hnI p (by walk_at "m_tail"))))))))))))
          · exact faC (⟨by walk_at "m_fresh", by k_ne, by k_ne, by k_ne⟩) (faC (⟨by walk_at "m_fresh", by k_ne, by k_ne, by k_ne⟩) (faC (⟨fDA, by k_ne, by k_ne, by k_ne⟩) (hfr)))
          · walk_at "m_names2"
      · intro u nx h tk qz0
        first | (revert qz0; revert nx; refine y6_6 ?_; intro tl vs c itr xsr nr hsub hfr hir hlr hvl hvs) | obtain ⟨tl, vs, c, itr, xsr, nr, rfl, hsub, hfr, hir, hlr, hvl, hvs⟩ := qz0
        intro F3 N3
        obtain ⟨p0, p1, rfl⟩ := two_of hvl
        have P0 := hvs p0 (.head _)
        have P1 := hvs p1 (.tail _ (.head _))
        clear F9 N10
        k_steps
        unfold Stop
        have P0' := P0
        have P1' := P1
        have hkr : ∀ p ∈ tl, p.1 ≠ r := fun p hp => (hfr p hp).2.1
        have hkp : ∀ p ∈ tl, p.1 ≠ pl := fun p hp => (hfr p hp).2.2.1
        refine cut_same F3 (fun nx => ∃ (tl' : List (Addr × Obj)) (q0 q1 : Value) (c' : Nat), nx = (pl, listOf [q0, q1].toArray c') :: (L + 1 + 1, oR) :: (L + 1, oF) :: (r, listOf itr.toArray nr) :: (dl, listOf [.int a ta, .int b tb].toArray nd) :: (dd, od) :: (xv, instObj 257 dv) :: (dv, vdict w s1 s2 s3 s4 s5 kd tkd D (.ref dd)) :: tl' ∧
          (∀ p ∈ ([(y, instObj 257 dy), (dy, vdict w u1 u2 u3 u4 u5 sI (q6 + 1) Ld .none), (Ld, listOf [.int a ta, .int b tb].toArray cd), (D, LCg.lst ys)] : List (Addr × Obj)), p ∈ tl') ∧ (∀ p ∈ tl', s.heap.get? p.1 = none ∧ @Ne Nat p.1 r ∧ @Ne Nat p.1 pl ∧ @Ne Nat p.1 dd) ∧ PartOf w tl' q0 ∧ PartOf w tl' q1) ?_ ?_
        · rcases P0 with ⟨x0, d0, a1, a2, a3, rfl, m1, m2⟩ | ⟨x0, ss0, rfl, ⟨d0, a1, a2, a3, a4, a5, a6, l0, c0, m1, m2, m3⟩, -⟩ <;> rcases P1 with ⟨x1, d1, b1, b2, b3, rfl, m4, m5⟩ | ⟨x1, ss1, rfl, ⟨d1, b1, b2, b3, b4, b5, b6, l1', c1, m4, m5, m6⟩, -⟩
          all_goals (
            have N6 := news_in (news_in (news_in (news_in N3 (p := (x1, _)) (by walk_at "m_tailm")) (p := (d1, _)) (by walk_at "m_tailm")) (p := (x0, _)) (by walk_at "m_tailm")) (p := (d0, _)) (by walk_at "m_tailm")
            have N3h := Hid.mk N3
            clear N3
            have g1 : @Ne Nat x0 pl := hkp _ m1
            have g2 : @Ne Nat d0 pl := hkp _ m2
            have g3 : @Ne Nat x1 pl := hkp _ m4
            have g4 : @Ne Nat d1 pl := hkp _ m5
            k_steps)
          · unfold Stop
            have hac : 1 ≤ a ∧ a ≤ 3 := ⟨ha1, ha2⟩
            walk_at "m_chr"
            k_steps
            rename_i tkK y2 y3 y4 y5 y6 y7 y8 ysA ezA hzA DA z1 z2 z3 z4 fDA ofA xn dn v1 v2 v3 v4 v5 z5 z6 z7 z8 lA lB hB FB NB
            exact ⟨rfl, hB, _, _, _, rfl, FB, news_sub (l' := (pl, listOf [Value.ref xn, Value.ref x1].toArray c) :: (L + 1 + 1, oR) :: (L + 1, oF) :: (r, listOf itr.toArray nr) :: (dl, listOf [.int a ta, .int b tb].toArray nd) :: (dd, od) :: (xv, instObj 257 dv) :: (dv, vdict w s1 s2 s3 s4 s5 kd tkd D (.ref dd)) :: (xn, instObj 257 dn) :: (dn, vdict w v1 v2 v3 v4 v5 sC tkK DA .none) :: (DA, LCg.lst ysA) :: tl) NB (by
                repeat walk_at "m_fa"
                exact fun p hp => (by walk_at "m_tail")), rfl, (xn, instObj 257 dn) :: (dn, vdict w v1 v2 v3 v4 v5 sC tkK DA .none) :: (DA, LCg.lst ysA) :: tl, .ref xn, .ref x1, c, rfl, fun p hp => .tail _ (.tail _ (.tail _ (hsub p hp))),
              faC (⟨by walk_at "m_fresh", by k_ne, by k_ne, by k_ne⟩) (faC (⟨by walk_at "m_fresh", by k_ne, by k_ne, by k_ne⟩) (faC (⟨fDA, by k_ne, by k_ne, by k_ne⟩) (hfr))),
              .inr ⟨xn, ysA, rfl, ⟨dn, v1, v2, v3, v4, v5, tkK, DA, _, .head _, .tail _ (.head _), .tail _ (.tail _ (.head _))⟩, ar_hun ezA (ar_c ‹_› rfl), hzA⟩, P1'.mono fun p hp => .tail _ (.tail _ (.tail _ hp))⟩
          all_goals exact ⟨rfl, _, _, _, _, rfl, F3, N3h.out, rfl, tl, _, _, c, rfl, hsub, hfr, P0', P1'⟩
        · intro h tk nx F4 N4 qz0
          first | (refine x4_5 (qz0) ?_; intro tl' q0 q1 c' e9z hsub' hfr' Q0 Q1; clear qz0; subst e9z) | obtain ⟨tl', q0, q1, c', rfl, hsub', hfr', Q0, Q1⟩ := qz0
          clear N3 F3 hkr hkp hfr hsub P0 P1 P0' P1' hvs
          have hkr : ∀ p ∈ tl', p.1 ≠ r := fun p hp => (hfr' p hp).2.1
          have hkp : ∀ p ∈ tl', p.1 ≠ pl := fun p hp => (hfr' p hp).2.2.1
          have hkdd : ∀ p ∈ tl', p.1 ≠ dd := fun p hp => (hfr' p hp).2.2.2
          k_steps
          · rename_i tkH xh dh v1 v2 v3 v4 v5 z1 z2 lH1 lH2 z3 z4 z5 z6 z7 z8 z9 itZ xiZ niZ z10 hiZ hlZ z11 z12 z13 z14 z15 tkN dA z16 o2z loA z17 lA1 tR kS z18 lL z19 lA2 xn dn w1 w2 w3 w4 w5 z20 z21 lA3 lA4 z22 oA hoA z23 Fz2 Nz2 z24 hB oB FB NB hoB
            obtain ⟨V0, S0⟩ := Q0.src
            obtain ⟨V1, S1⟩ := Q1.src
            (try dsimp only)
            exact hret _ _ _ (keep_now S hvE FB NB [r] (fun p hp hn => by
              rcases List.mem_cons.mp hp with rfl | hp
              · exact absurd (List.mem_singleton.mpr rfl) hn
              · rw [List.mem_singleton.mp hp]; k_mem)) ⟨(dd, oB) :: (xv, instObj 257 dv) :: (dv, vdict w s1 s2 s3 s4 s5 kd tkd D (.ref dd)) :: (xh, instObj 257 dh) :: (dh, vdict w v1 v2 v3 v4 v5 sX tkH pl (.ref dA)) :: (pl, listOf [q0, q1].toArray c') :: (dA, oA) :: (xn, instObj 257 dn) :: (dn, vdict w w1 w2 w3 w4 w5 sC (tkN + 1) lL .none) :: (lL, listOf [.str (Str.ofString "r" ++ Str.ofString (toString fi)) tR, .str (Str.ofString "s") kS].toArray 0) :: tl', xv, kd, ys, dd, y, some xh, rfl,
              faC (⟨fdd, by walk_at "m_got"⟩) (faC (⟨fxv, by walk_at "m_got"⟩) (faC (⟨fdv, by walk_at "m_got"⟩) (faC (⟨by walk_at "m_fresh", by walk_at "m_got"⟩) (faC (⟨by walk_at "m_fresh", by walk_at "m_got"⟩) (faC (⟨fpl, by walk_at "m_got"⟩) (faC (⟨by walk_at "m_fresh", by walk_at "m_got"⟩) (faC (⟨by walk_at "m_fresh", by walk_at "m_got"⟩) (faC (⟨by walk_at "m_fresh", by walk_at "m_got"⟩) (faC (⟨by walk_at "m_fresh", by walk_at "m_got"⟩) (fun p hp => ⟨(hfr' p hp).1, (NB p (by walk_at "m_tail")).1⟩)))))))))),
              { vec := ⟨dv, s1, s2, s3, s4, s5, tkd, D, _, by k_mem, by k_mem, by have hm := hsub' (D, LCg.lst ys) (.tail _ (.tail _ (.tail _ (.head _)))); walk_at "m_tail"⟩
                kind := hkd
                bits := hz
                len := by rw [hN]; exact ar_len ez h1
                dct := ⟨oB, .head _, hoB, lod⟩
                dim := ⟨ta, tb, (show Vec w tl' y sI [.int a ta, .int b tb] .none from ⟨dy, u1, u2, u3, u4, u5, _, Ld, cd, hsub' _ (.head _), hsub' _ (.tail _ (.head _)), hsub' _ (.tail _ (.tail _ (.head _)))⟩).mono fun p hp => by walk_at "m_tail"⟩
                heads := fun z hz' => by
                  obtain rfl := Option.some.inj hz'
                  refine ⟨_, SrcOf.lst (kvs := [(sNm, .ref xn)]) (As := [(sNm, _)]) (Xs := [V0, V1]) ⟨dh, v1, v2, v3, v4, v5, tkH, pl, c', by k_mem, by k_mem, by k_mem⟩ rfl (by show 2 < 100; decide) (two_src (S0.mono fun p hp => by walk_at "m_tail") (S1.mono fun p hp => by walk_at "m_tail")) (.inr ⟨dA, rfl, oA, by k_mem, hoA, loA⟩) (by show 1 < 10; decide) rfl (one_src (.vec (kvs := []) (As := []) ⟨dn, w1, w2, w3, w4, w5, _, lL, 0, by k_mem, by k_mem, by k_mem⟩ (.inr (.inr rfl)) (by rw [List.length_map]) (by show 2 < 100; decide) (atoms_shown (by
                    intro z hz
                    rcases List.mem_cons.mp hz with rfl | hz
                    · exact .inl ⟨_, _, rfl⟩
                    · rw [List.mem_singleton.mp hz]; exact .inl ⟨_, _, rfl⟩)) (.inl ⟨rfl, rfl⟩) (by decide) rfl fun j h => absurd h (Nat.not_lt_zero _)))⟩ }, itZ, xiZ, niZ, by walk_at "m_got", hiZ, hlZ⟩
          · rename_i tkH xh dh v1 v2 v3 v4 v5 z1 z2 lH1 lH2 z3 Fz2 Nz2 z4 z5 z6 z7 z8 z9 itZ xiZ niZ z10 hiZ Fz3 Nz3 hlZ z11 z12 z13 z14 z15 z16 hB oB FB NB hoB
            obtain ⟨V0, S0⟩ := Q0.src
            obtain ⟨V1, S1⟩ := Q1.src
            (try dsimp only)
            exact hret _ _ _ (keep_now S hvE FB NB [r] (fun p hp hn => by
              rcases List.mem_cons.mp hp with rfl | hp
              · exact absurd (List.mem_singleton.mpr rfl) hn
              · rw [List.mem_singleton.mp hp]; k_mem)) ⟨(dd, oB) :: (xv, instObj 257 dv) :: (dv, vdict w s1 s2 s3 s4 s5 kd tkd D (.ref dd)) :: (xh, instObj 257 dh) :: (dh, vdict w v1 v2 v3 v4 v5 sX tkH pl .none) :: (pl, listOf [q0, q1].toArray c') :: tl', xv, kd, ys, dd, y, some xh, rfl,
              faC (⟨fdd, by walk_at "m_got"⟩) (faC (⟨fxv, by walk_at "m_got"⟩) (faC (⟨fdv, by walk_at "m_got"⟩) (faC (⟨by walk_at "m_fresh", by walk_at "m_got"⟩) (faC (⟨by walk_at "m_fresh", by walk_at "m_got"⟩) (faC (⟨fpl, by walk_at "m_got"⟩) (fun p hp => ⟨(hfr' p hp).1, (NB p (by walk_at "m_tail")).1⟩)))))),
              { vec := ⟨dv, s1, s2, s3, s4, s5, tkd, D, _, by k_mem, by k_mem, by have hm := hsub' (D, LCg.lst ys) (.tail _ (.tail _ (.tail _ (.head _)))); walk_at "m_tail"⟩
                kind := hkd
                bits := hz
                len := by rw [hN]; exact ar_len ez h1
                dct := ⟨oB, .head _, hoB, lod⟩
                dim := ⟨ta, tb, (show Vec w tl' y sI [.int a ta, .int b tb] .none from ⟨dy, u1, u2, u3, u4, u5, _, Ld, cd, hsub' _ (.head _), hsub' _ (.tail _ (.head _)), hsub' _ (.tail _ (.tail _ (.head _)))⟩).mono fun p hp => by walk_at "m_tail"⟩
                heads := fun z hz' => by
                  obtain rfl := Option.some.inj hz'
                  refine ⟨_, SrcOf.lst (kvs := []) (As := []) (Xs := [V0, V1]) ⟨dh, v1, v2, v3, v4, v5, tkH, pl, c', by k_mem, by k_mem, by k_mem⟩ rfl (by show 2 < 100; decide) (two_src (S0.mono fun p hp => by walk_at "m_tail") (S1.mono fun p hp => by walk_at "m_tail")) (.inl ⟨rfl, rfl⟩) (by decide) rfl fun j h => absurd h (Nat.not_lt_zero _)⟩ }, itZ, xiZ, niZ, by walk_at "m_got", hiZ, hlZ⟩
    · rename_i xv dv s1 s2 s3 s4 s5 q1 q2 q3 q4 q5 q6 dd q7 q8 lod q9 q10 Ld cd q11 q12 y dy u1 u2 u3 u4 u5 q13 q14 q15 q16 q17 od hod q18 Fq Nq q19 q20 q21 kpq i0 t0 its3 xs3 n3 q22 hi3 FB NB hl3 k3 t3 b3 c3 a3
      (try dsimp only)
      exact hret _ _ _ (keep_now S hvE FB NB [r] (fun p hp hn => by
              rcases List.mem_cons.mp hp with rfl | hp
              · exact absurd (List.mem_singleton.mpr rfl) hn
              · rw [List.mem_singleton.mp hp]; k_mem)) ⟨[(dd, od), (xv, instObj 257 dv), (dv, vdict w s1 s2 s3 s4 s5 kd tkd D (.ref dd)), (D, LCg.lst ys), (y, instObj 257 dy), (dy, vdict w u1 u2 u3 u4 u5 sI (q6 + 1) Ld .none), (Ld, listOf [.int a ta, .int b tb].toArray cd)], xv, kd, ys, dd, y, none, rfl,
        faC (⟨by walk_at "m_fresh", by walk_at "m_got"⟩) (faC (⟨by walk_at "m_fresh", by walk_at "m_got"⟩) (faC (⟨by walk_at "m_fresh", by walk_at "m_got"⟩) (faC (⟨fl, by walk_at "m_got"⟩) (faC (⟨by walk_at "m_fresh", by walk_at "m_got"⟩) (faC (⟨by walk_at "m_fresh", by walk_at "m_got"⟩) (faC (⟨by walk_at "m_fresh", by walk_at "m_got"⟩) (List.forall_mem_nil _))))))),
        { vec := ⟨dv, s1, s2, s3, s4, s5, tkd, D, _, by k_mem, by k_mem, by k_mem⟩
          kind := hkd
          bits := hz
          len := by rw [hN]; exact ar_len ez h1
          dct := ⟨od, .head _, hod, lod⟩
          dim := ⟨ta, tb, dy, u1, u2, u3, u4, u5, _, Ld, cd, by k_mem, by k_mem, by k_mem⟩
          heads := fun z hz' => nomatch hz' }, its3, xs3, n3, by walk_at "m_got", hi3, hl3⟩
end
/-- the rows of attributes that are shown, and what they show under dimnames -/
inductive AsOf (a b : Int) : Option VD → List (Str × VD) → Prop where
  | mat (V : Option VD) : AsOf a b V (rowV a b V)
  | bare : AsOf a b none []
  | names (V : VD) : AsOf a b none [(sNm, V)]
/-- an operand and all that is asked of it -/
structure Opnd (w : World) (l : List (Addr × Obj)) (x : Addr) (k : Str) (its : List Value) (xs : List Int) (av : Value) (n a b : Int) (o : Option Addr) (V : Option VD) (As : List (Str × VD)) : Prop where
  vec : Vec w l x k its av
  kind : k = sI ∨ k = sL
  are : IntsAre its xs
  room : ∀ j ∈ xs, 0 ≤ j ∧ j ≤ 5
  len : (its.length : Int) = n
  dn : DnOf w l av o
  row : RowF w l av
  head : HeadV w l o V
  has : AsOf a b V As
  src : SrcOf w l 4 (.ref x) (.tup [.str k, .lst (its.map shownAtom), .dct As])
section
variable {w : World} {l : List (Addr × Obj)}
theorem Mat.head {x d y : Addr} {k : Str} {its : List Value} {a b : Int} {o : Option Addr} (M : Mat w l x k its d y a b o) : ∃ V, HeadV w l o V := by
  cases o with
  | none => exact ⟨none, trivial⟩
  | some z => obtain ⟨V, h⟩ := M.heads z rfl; exact ⟨some V, h⟩
theorem Mat.opnd {x d y : Addr} {k : Str} {its : List Value} {a b N : Int} {o : Option Addr} (M : Mat w l x k its d y a b o) (hN : a * b = N) (h9 : N ≤ 9) {V : Option VD} (hV : HeadV w l o V) :
    ∃ xs, Opnd w l x k its xs (.ref d) N a b o V (rowV a b V) := by
  first | (refine x1_2 (M.bits) ?_; intro xs hi hr) | obtain ⟨xs, hi, hr⟩ := M.bits
  first | (refine x2_1 (M.dim) ?_; intro ta tb hy) | obtain ⟨ta, tb, hy⟩ := M.dim
  have hl : (its.length : Int) = N := by rw [M.len, hN]
  refine ⟨xs, M.vec, M.kind, hi, hr, hl, ?_, ?_, hV, .mat V, (res_src M.vec M.kind (ints_cell hi) (by omega) M.dct hy hV).up (by decide)⟩
  · refine .inr ⟨d, _, rfl, M.dct, ?_⟩
    cases o <;> rfl
  · refine .inr ⟨d, _, y, o.getD 0, rfl, M.dct, ?_⟩
    cases o with
    | none => exact .inl rfl
    | some z => exact .inr (.inl rfl)
theorem Mat.dimA {x d y : Addr} {k : Str} {its : List Value} {a b : Int} {o : Option Addr} (M : Mat w l x k its d y a b o) : DimA w l (.ref d) a b (dnRow o none) := by
  first | (refine x2_1 (M.dim) ?_; intro ta tb hy) | obtain ⟨ta, tb, hy⟩ := M.dim
  exact ⟨d, y, ta, tb, rfl, M.dct, hy⟩
/-- a Vector without dims: none or one row of attributes, its names -/
structure Plain (w : World) (l : List (Addr × Obj)) (x : Addr) (its : List Value) (av : Value) : Prop where
  vec : Vec w l x sI its av
  bits : BitsAre its
  row : av = .none ∨ ∃ d z ss, av = .ref d ∧ Dct w l d [(sNm, .ref z)] ∧ Vec w l z sC ss .none ∧ ss.length < 100 ∧ ∀ v ∈ ss, IsStr v
theorem Plain.opnd {x : Addr} {its : List Value} {av : Value} {n a b : Int} (P : Plain w l x its av) (hl : (its.length : Int) = n) (h9 : n ≤ 9) : ∃ xs As, Opnd w l x sI its xs av n a b none none As := by
  first | (refine x1_2 (P.bits) ?_; intro xs hi hr) | obtain ⟨xs, hi, hr⟩ := P.bits
  rcases P.row with e | ⟨d, z, ss, e, hd, hz, hs, hss⟩
  · exact ⟨xs, [], P.vec, .inl rfl, hi, hr, hl, .inl ⟨e, rfl⟩, .inl e, trivial, .bare, .vec (kvs := []) P.vec (.inl rfl) (by rw [List.length_map]) (by omega) (atoms_shown (cells_atom (ints_cell hi))) (.inl ⟨e, rfl⟩) (by decide) rfl fun j h => absurd h (Nat.not_lt_zero _)⟩
  · exact ⟨xs, [(sNm, _)], P.vec, .inl rfl, hi, hr, hl, .inr ⟨d, _, e, hd, rfl⟩, .inr ⟨d, _, z, z, e, hd, .inr (.inr rfl)⟩, trivial, .names _, .vec P.vec (.inl rfl) (by rw [List.length_map]) (by omega) (atoms_shown (cells_atom (ints_cell hi))) (.inr ⟨d, e, hd⟩) (by show 1 < 10; decide) rfl
      (one_src (.vec (kvs := []) (As := []) hz (.inr (.inr rfl)) (by rw [List.length_map]) hs (atoms_shown fun v hv => .inl (hss v hv)) (.inl ⟨rfl, rfl⟩) (by decide) rfl fun j h => absurd h (Nat.not_lt_zero _)))⟩
theorem Plain.noDim {x : Addr} {its : List Value} {av : Value} (P : Plain w l x its av) : NoDim w l av := by
  rcases P.row with e | ⟨d, z, ss, e, hd, _⟩
  · exact .inl e
  · exact .inr ⟨d, _, e, hd⟩
/-- the two operands that the law takes: a matrix and what goes with it -/
inductive Two (w : World) (l : List (Addr × Obj)) (x y : Addr) (a b N : Int) (o o' : Option Addr) (V V' : Option VD) (As As' : List (Str × VD)) : Prop where
  | mk (k k' : Str) (its its' : List Value) (xs xs' : List Int) (av av' : Value) (n m : Int) (h1 : Opnd w l x k its xs av n a b o V As) (h2 : Opnd w l y k' its' xs' av' m a b o' V' As') (h3 : Pair w l av av' n m N a b) : Two w l x y a b N o o' V V' As As'
theorem two_mats {x d y x' d' y' : Addr} {k k' : Str} {its its' : List Value} {a b N : Int} {o o' : Option Addr} (M : Mat w l x k its d y a b o) (M' : Mat w l x' k' its' d' y' a b o') (hN : a * b = N) (h9 : N ≤ 9) {V V' : Option VD} (hV : HeadV w l o V) (hV' : HeadV w l o' V') :
    Two w l x x' a b N o o' V V' (rowV a b V) (rowV a b V') := by
  obtain ⟨xs, h⟩ := M.opnd hN h9 hV
  obtain ⟨xs', h'⟩ := M'.opnd hN h9 hV'
  exact ⟨k, k', its, its', xs, xs', _, _, N, N, h, h', .mm rfl rfl M.dimA M'.dimA⟩
theorem two_plain {x d y x' : Addr} {k : Str} {its its' : List Value} {av : Value} {a b N m : Int} {o : Option Addr} (M : Mat w l x k its d y a b o) (P : Plain w l x' its' av) (hN : a * b = N) (h9 : N ≤ 9) (h1 : 1 ≤ N) (hl : (its'.length : Int) = m) (hm : m = N ∨ m = 1) {V : Option VD} (hV : HeadV w l o V) :
    ∃ As, Two w l x x' a b N o none V none (rowV a b V) As ∧ Two w l x' x a b N none o none V As (rowV a b V) := by
  obtain ⟨xs, h⟩ := M.opnd hN h9 hV
  first | (refine x2_1 (P.opnd (a := a) (b := b) hl (by omega)) ?_; intro xs' As h') | obtain ⟨xs', As, h'⟩ := P.opnd (a := a) (b := b) hl (by omega)
  exact ⟨As, ⟨k, sI, its, its', xs, xs', _, _, N, m, h, h', .mv rfl hm M.dimA P.noDim⟩, ⟨sI, k, its', its, xs', xs, _, _, m, N, h', h, .vm hm rfl P.noDim M.dimA⟩⟩
end
section
open AutoSeq1 (wpAny_loadPart')
open MeetsSeq MeetsSeq2 MeetsSeq3 SeqRoads2 SeqAt
variable {w : World}
theorem new_tuple (l b : Addr) (items items2 : Array Value) (n n2 : Nat) (dd dd2 : Option Addr) (sl sl2 : Array (Option Value)) (hsz : items.size = items2.size) :
    MeetsIn PG w (Builtin.«tuple.__ne__» ⟨[.ref l, .ref b], []⟩)
      (fun A R s => s.heap.get? l = some { cls := .type "tuple", dict := dd, data := .seq items n, slots := sl } ∧ s.heap.get? b = some { cls := .type "tuple", dict := dd2, data := .seq items2 n2, slots := sl2 } ∧
        Alike w A.in1 s items items2 ∧ R (.ok (.ret (.bool false))) s) :=
  .of_wp fun A R s h => by
    obtain ⟨hp, g, d, tk, os⟩ := s; obtain ⟨hl, hb, he, h⟩ := h
    have f2 := AutoSeq1.sub_tuple_tuple
    wp_walk using wpAny_loadPart' hl, wpAny_loadPart' hb, wpAny_forIn_list _ (fun rest b s' => b.1 = none ∧ s' = ⟨hp, g, d, tk, os⟩ ∧ ∃ i, rest = (items.toList.zip items2.toList).drop i) _
    case turn =>
      rintro ⟨y, x⟩ rest b s' ⟨hb', rfl, i, hz⟩
      obtain ⟨h1, h2, rfl, rfl, hrest⟩ := drop_zip hz
      refine wpAny_bind (he i (by simpa using h1) (by simpa using h2) _ _ ?_)
      wp_walk
      exact ⟨rfl, rfl, i + 1, hrest⟩
    case fin =>
      rintro ⟨b1, b2⟩ s' ⟨hb', rfl, i, hz⟩
      simp only at hb'
      subst hb'
      wp_walk
      exact ⟨_, rfl, by simpa [Builtin.Tuple.tupleCompareSizes, hsz] using h⟩
    case h =>
      exact ⟨rfl, rfl, 0, rfl⟩
variable {A : Around} {s : Shared}
theorem NeW.tuples {l b : Addr} {items items2 : Array Value} (hl : s.heap.IsTuple l items) (hb : s.heap.IsTuple b items2) (hsz : items.size = items2.size) (hu : A.units < cLine) (he : Alike w A.in1 s items items2) : NeW w A s (.ref l) (.ref b) := fun E Q h => by
  obtain ⟨⟨cls, dd, data, sl⟩, ho, hc, n, hd⟩ := id hl
  obtain ⟨⟨cls2, dd2, data2, sl2⟩, ho2, hc2, n2, hd2⟩ := id hb
  simp only at hc hd hc2 hd2
  subst hc hd hc2 hd2
  exact wpAny_richCompare_same_room (op := .NotEq) ⟨_, ho, rfl⟩ ⟨_, ho2, rfl⟩ F.slot_tuple_ne (call_meetsIn F.slot_tuple_ne ⟨_, ho, rfl⟩ F.entry_tuple_ne (F.args_tuple_ne_2 _ _) (new_tuple l b items items2 n n2 dd dd2 sl sl2 hsz)
    ⟨ho, ho2, he, show Value.bool false ≠ Value.notImplemented ∧ Q (.bool false) s from ⟨(fun x => nomatch x), h⟩⟩) hu
end
/-- alike views are not found unlike -/
theorem view_ne {w : World} {s : Shared} {l l' : List (Addr × Obj)} (hl : ∀ p ∈ l, s.heap.get? p.1 = some p.2) (hl' : ∀ p ∈ l', s.heap.get? p.1 = some p.2) {n m : Nat} {a b : Addr} {V : VD} (h : ViewOf w l n (.ref a) V) (h' : ViewOf w l' m (.ref b) V) {A : Around} (hu : A.units + n < cLine) : NeW w A s (.ref a) (.ref b) := by
  cases h with
  | lst hm hlen hv =>
    cases h' with
    | lst hm' hlen' hv' =>
      exact NeW.lists ⟨_, hl _ hm, rfl, _, rfl⟩ ⟨_, hl' _ hm', rfl, _, rfl⟩ (by simpa only [List.size_toArray] using hlen.trans hlen'.symm) (un_lt hu) fun j h1 h2 => by
        simp only [List.size_toArray] at h1 h2
        simp only [List.getElem_toArray]
        exact view_eq hl hl' (hv j h1 (hlen ▸ h1)) (hv' j h2 (hlen' ▸ h2)) (by simp only [units_in1]; exact un_room hu)
  | tup hm hlen hv =>
    cases h' with
    | tup hm' hlen' hv' =>
      exact NeW.tuples ⟨_, hl _ hm, rfl, _, rfl⟩ ⟨_, hl' _ hm', rfl, _, rfl⟩ (by simpa only [List.size_toArray] using hlen.trans hlen'.symm) (un_lt hu) fun j h1 h2 => by
        simp only [List.size_toArray] at h1 h2
        simp only [List.getElem_toArray]
        exact view_eq hl hl' (hv j h1 (hlen ▸ h1)) (hv' j h2 (hlen' ▸ h2)) (by simp only [units_in1]; exact un_room hu)
  | @dct n a o kvs Ks hm hd lo hk hv =>
    cases h' with
    | @dct m' a' o' kvs' _ hm' hd' lo' hk' hv' =>
      have e1 : kvs.length = Ks.length := by simpa using congrArg List.length hk
      have e2 : kvs'.length = Ks.length := by simpa using congrArg List.length hk'
      have D := Heap.dictOf_iff.mpr ⟨_, hl _ hm, hd⟩
      have D' := Heap.dictOf_iff.mpr ⟨_, hl' _ hm', hd'⟩
      have hn : (kvs'.map (·.1)).Nodup := let ⟨_, _, _, _, _, _, _, _, hn⟩ := D'; hn
      refine NeW.dicts lo lo' D D' (un_lt hu) ⟨e1.trans e2.symm, fun p hp => ?_⟩
      obtain ⟨j, hj, rfl⟩ := List.getElem_of_mem hp
      have hj' : j < kvs'.length := by rw [e2, ← e1]; exact hj
      have ek : kvs[j].1 = kvs'[j].1 := by
        have := congrArg (fun q => q[j]?) (hk.trans hk'.symm)
        simpa [hj, hj'] using this
      exact ⟨kvs'[j].2, by rw [ek]; exact valueAt_at hn hj', view_eq hl hl' (hv j hj (e1 ▸ hj)) (hv' j hj' (e2 ▸ hj')) (by simp only [units_in1]; exact un_room hu)⟩
section
variable {w : World} {l : List (Addr × Obj)}
/-- the parts of a Vector's view -/
theorem len_three {α : Type} {xs : List α} (h : xs.length = 3) : ∃ a b c, xs = [a, b, c] := by
  cases xs with
  | nil => cases h
  | cons a r => cases r with
    | nil => cases h
    | cons b r => cases r with
      | nil => cases h
      | cons c r => cases r with
        | nil => exact ⟨a, b, c, rfl⟩
        | cons _ _ => cases h
theorem view_parts {n : Nat} {r : Value} {V0 V1 : VD} {As : List (Str × VD)} (h : ViewOf w l n r (.tup [V0, V1, .dct As])) :
    ∃ T q0 q1 D o kvs, r = .ref T ∧ (T, tupObj [q0, q1, .ref D]) ∈ l ∧ (D, o) ∈ l ∧ o.IsDictOf (PySem.strKind PG w) kvs ∧ (D == sysModules) = false ∧ kvs.map (·.1) = As.map (·.1) ∧ (∀ (j : Nat) (h : j < kvs.length) (h' : j < As.length), ViewOf w l n kvs[j].2 As[j].2) ∧ ViewOf w l n (.ref D) (.dct As) := by
  cases h with
  | @tup n' a xs _ hm hlen hv =>
    first | (refine x3_1 (len_three (xs := xs) hlen) ?_; intro q0 q1 q2 e9z; subst e9z) | obtain ⟨q0, q1, q2, rfl⟩ := len_three (xs := xs) hlen
    have h2 : ViewOf w l n' q2 (.dct As) := hv 2 (Nat.lt_succ_self 2) (Nat.lt_succ_self 2)
    have h2' := h2
    cases h2 with
    | @dct n'' D o kvs _ hm' hd lo hk hvs =>
      exact ⟨a, q0, q1, D, o, kvs, rfl, hm, hm', hd, lo, hk, fun j h h' => (hvs j h h').up (by omega), h2'.up (by omega)⟩
/-- what stands behind the dims of a row as it is shown -/
def HsV (w : World) (l : List (Addr × Obj)) (n : Nat) (hs : List (Str × Value)) : Option VD → Prop
  | none => hs = []
  | some V => ∃ z, hs = [(sDn, z)] ∧ ViewOf w l n z V
theorem HsV.mono {l' : List (Addr × Obj)} {n : Nat} {hs : List (Str × Value)} {V : Option VD} (h : HsV w l n hs V) (hm : ∀ p ∈ l, p ∈ l') : HsV w l' n hs V := by
  cases V with
  | none => exact h
  | some V => obtain ⟨z, e, h⟩ := h; exact ⟨z, e, h.mono hm⟩
theorem due_view {n D T dl E0 nd : Addr} {oD oE : Obj} {hs : List (Str × Value)} {a b : Int} {ta tb tk : Tok} {V : Option VD} (hD : (D, oD) ∈ l) (hd : oD.IsDictOf (PySem.strKind PG w) ((sDim, .ref T) :: hs)) (lo : (D == sysModules) = false) (hT : (T, tupObj [.str sI tk, .ref dl, .ref E0]) ∈ l)
    (hdl : (dl, listOf [.int a ta, .int b tb].toArray nd) ∈ l) (hE : (E0, oE) ∈ l) (hE' : oE.IsDictOf (PySem.strKind PG w) []) (loE : (E0 == sysModules) = false) (hv : HsV w l n hs V) : ViewOf w l (n + 3) (.ref D) (.dct (rowV a b V)) := by
  have hdim : ViewOf w l (n + 2) (.ref T) (dimV a b) := .tup hT rfl fun j h h' => match j, h, h' with
    | 0, _, _ => .str _ _
    | 1, _, _ => .lst hdl rfl fun j h h' => match j, h, h' with
      | 0, _, _ => .int a ta
      | 1, _, _ => .int b tb
      | j + 2, h, _ => absurd h (by simp)
    | 2, _, _ => .dct hE hE' loE rfl fun j h => absurd h (Nat.not_lt_zero _)
    | j + 3, h, _ => absurd h (by simp)
  cases V with
  | none =>
    obtain rfl : hs = [] := hv
    exact .dct hD hd lo rfl fun j h h' => match j, h, h' with
      | 0, _, _ => hdim
      | j + 1, h, _ => absurd h (by simp)
  | some V =>
    first | (refine x1_2 (hv) ?_; intro z e9z hz; clear hv; subst e9z) | obtain ⟨z, rfl, hz⟩ := hv
    exact .dct hD hd lo rfl fun j h h' => match j, h, h' with
      | 0, _, _ => hdim
      | 1, _, _ => hz.up (by omega)
      | j + 2, h, _ => absurd h (by simp)
theorem dim_ne {o : Obj} {v : Value} {hs : List (Str × Value)} (h : o.IsDictOf (PySem.strKind PG w) ((sDim, v) :: hs)) : (∀ dz, o ≠ instObj 257 dz) ∧ (∀ its n, o ≠ listOf its n) ∧ ∀ t1 t2 t3 t4 t5 k tk li av, o ≠ vdict w t1 t2 t3 t4 t5 k tk li av := by
  obtain ⟨es, ep, _, hd, _, hp, _⟩ := h
  refine ⟨?_, ?_, ?_⟩
  · rintro dz rfl; cases hd
  · rintro its n rfl; cases hd
  · rintro t1 t2 t3 t4 t5 k tk li av rfl
    injection hd with e1 _
    subst e1
    cases hp with
    | cons h1 => simp [PySem.strKind, Value.isStrOf] at h1; revert h1; decide
/-- a result, its row of attributes d apart from what else it is made of -/
structure TOne (w : World) (l : List (Addr × Obj)) (a b : Int) (V : Option VD) (z d : Addr) (od : Obj) (rest : List (Addr × Obj)) : Prop where
  made : ∃ dz t1 t2 t3 t4 t5 k tk li, (z, instObj 257 dz) ∈ rest ∧ (dz, vdict w t1 t2 t3 t4 t5 k tk li (.ref d)) ∈ rest
  off : ∀ p ∈ rest, p.1 ≠ d
  dct : ∃ y hs, od.IsDictOf (PySem.strKind PG w) ((sDim, .ref y) :: hs) ∧ hs.length < 5
  sys : (d == sysModules) = false
  src : ∃ V0 V1, SrcOf w ((d, od) :: rest ++ l) 3 (.ref z) (.tup [V0, V1, .dct (rowV a b V)])
theorem TOne.mono {l' : List (Addr × Obj)} {a b : Int} {V : Option VD} {z d : Addr} {od : Obj} {rest : List (Addr × Obj)} (h : TOne w l a b V z d od rest) (hs : ∀ p ∈ l, p ∈ l') : TOne w l' a b V z d od rest :=
  { h with src := let ⟨V0, V1, hv⟩ := h.src; ⟨V0, V1, hv.mono fun p hp => (List.mem_append.mp hp).elim (List.mem_append_left _) fun hp => List.mem_append_right _ (hs p hp)⟩ }
/-- the results that are not yet told, over what else is held -/
inductive Told (w : World) (l : List (Addr × Obj)) (a b : Int) (V : Option VD) : List Value → List (Addr × Obj) → Prop where
  | nil : Told w l a b V [] []
  | cons {z d : Addr} {od : Obj} {rest tl : List (Addr × Obj)} {zs : List Value} : TOne w l a b V z d od rest → (∀ p ∈ tl, p.1 ≠ d) → (∀ p ∈ l, p.1 ≠ d) → Told w l a b V zs tl → Told w l a b V (.ref z :: zs) (((d, od) :: rest) ++ tl)
/-- what a call has made is such a result -/
inductive Made (w : World) (l : List (Addr × Obj)) (a b : Int) (V : Option VD) (H h' : Heap) (r : Value) : Prop where
  | mk (z d : Addr) (od : Obj) (rest : List (Addr × Obj)) (h1 : r = .ref z) (h2 : ∀ p ∈ (d, od) :: rest, H.get? p.1 = none ∧ h'.get? p.1 = some p.2) (h3 : TOne w l a b V z d od rest) : Made w l a b V H h' r
theorem dnRow_or {o o' : Option Addr} : dnRow o o' = dnRow (o.or o') none := by cases o <;> cases o' <;> rfl
theorem HeadV.or {o o' : Option Addr} {V V' : Option VD} (h : HeadV w l o V) (h' : HeadV w l o' V') : HeadV w l (o.or o') (V.or V') := by
  cases o <;> cases V <;> first | exact h.elim | exact h | exact h'
theorem mem_cons_app {p q : Addr × Obj} {rest : List (Addr × Obj)} (h : p ∈ rest) : p ∈ (q :: rest) ++ l := List.mem_append_left _ (.tail _ h)
theorem off_of {h' : Heap} {d : Addr} {od : Obj} {rest : List (Addr × Obj)} (hd : h'.get? d = some od) (hr : ∀ p ∈ rest, h'.get? p.1 = some p.2) (hne : ∀ p ∈ rest, od ≠ p.2) : ∀ p ∈ rest, p.1 ≠ d := fun p hp e => by
  have h1 := hr p hp
  rw [e, hd] at h1
  exact hne p hp (Option.some.inj h1)
theorem ResOf.told {H h' : Heap} {k : Str} {N a b : Int} {o o' : Option Addr} {V V' : Option VD} {r : Value} (R : ResOf w H h' k N a b (dnRow o o') r) (hk : k = sI ∨ k = sL) (h9 : N ≤ 9) (hV : HeadV w l o V) (hV' : HeadV w l o' V') : Made w l a b (V.or V') H h' r := by
  obtain ⟨z, dz, li, d, t1, t2, t3, t4, t5, tk, zs, nl, rfl, hl, hf, hc, od, y, dy, ly, u1, u2, u3, u4, u5, uk, ta, tb, n, hg, hd, lo⟩ := R
  rw [dnRow_or] at hd
  have h1 := List.forall_mem_cons.mp hg
  first | (refine x0_3 (dim_ne hd) ?_; intro n1 n2 n3) | obtain ⟨n1, n2, n3⟩ := dim_ne hd
  have hf' : ∀ p ∈ ([(z, instObj 257 dz), (dz, vdict w t1 t2 t3 t4 t5 k tk li (.ref d)), (li, listOf zs.toArray nl)] : List (Addr × Obj)) ++ [(y, instObj 257 dy), (dy, vdict w u1 u2 u3 u4 u5 sI uk ly .none), (ly, listOf [.int a ta, .int b tb].toArray n)], H.get? p.1 = none ∧ h'.get? p.1 = some p.2 :=
    fun p hp => (List.mem_append.mp hp).elim (hf p) (h1.2 p)
  refine ⟨z, d, od, _, rfl, faC (h1.1) (hf'), ?_⟩
  have hfr : ∀ p ∈ ([(z, instObj 257 dz), (dz, vdict w t1 t2 t3 t4 t5 k tk li (.ref d)), (li, listOf zs.toArray nl)] : List (Addr × Obj)) ++ [(y, instObj 257 dy), (dy, vdict w u1 u2 u3 u4 u5 sI uk ly .none), (ly, listOf [.int a ta, .int b tb].toArray n)], od ≠ p.2 := by
    refine faC (n1 _) (faC (n3 _ _ _ _ _ _ _ _ _) (faC (n2 _ _) (faC (n1 _) (faC (n3 _ _ _ _ _ _ _ _ _) (faC (n2 _ _) (fun _ h => nomatch h))))))
  exact
    { made := ⟨dz, t1, t2, t3, t4, t5, k, tk, li, .head _, .tail _ (.head _)⟩
      off := off_of h1.1.2 (fun p hp => (hf' p hp).2) hfr
      dct := ⟨y, _, hd, by cases (o.or o') <;> simp [dnRow]⟩
      sys := lo
      src := ⟨_, _, res_src (y := y) ⟨dz, t1, t2, t3, t4, t5, tk, li, nl, .tail _ (.head _), .tail _ (.tail _ (.head _)), .tail _ (.tail _ (.tail _ (.head _)))⟩ hk hc (by omega) ⟨od, .head _, hd, lo⟩
        ⟨dy, u1, u2, u3, u4, u5, uk, ly, n, .tail _ (.tail _ (.tail _ (.tail _ (.head _)))), .tail _ (.tail _ (.tail _ (.tail _ (.tail _ (.head _))))), .tail _ (.tail _ (.tail _ (.tail _ (.tail _ (.tail _ (.head _))))))⟩ ((hV.or hV').mono fun p hp => List.mem_append_right _ hp)⟩ }
theorem UnOf.told {H h' : Heap} {k : Str} {N a b : Int} {o : Option Addr} {V : Option VD} {y : Addr} {r : Value} (R : UnOf w H h' k N ((sDim, .ref y) :: dnRow o none) r) (hk : k = sI ∨ k = sL) (h9 : N ≤ 9) (hV : HeadV w l o V) (hy : ∃ ta tb, Vec w l y sI [.int a ta, .int b tb] .none) : Made w l a b V H h' r := by
  obtain ⟨z, dz, li, d, t1, t2, t3, t4, t5, tk, zs, nl, rfl, hl, hf, hc, od, g1, g2, hd, lo⟩ := R
  obtain ⟨ta, tb, hy⟩ := hy
  first | (refine x0_3 (dim_ne hd) ?_; intro n1 n2 n3) | obtain ⟨n1, n2, n3⟩ := dim_ne hd
  refine ⟨z, d, od, _, rfl, faC (⟨g1, g2⟩) (hf), ?_⟩
  have hfr : ∀ p ∈ ([(z, instObj 257 dz), (dz, vdict w t1 t2 t3 t4 t5 k tk li (.ref d)), (li, listOf zs.toArray nl)] : List (Addr × Obj)), od ≠ p.2 :=
    faC (n1 _) (faC (n3 _ _ _ _ _ _ _ _ _) (faC (n2 _ _) (fun _ h => nomatch h)))
  exact
    { made := ⟨dz, t1, t2, t3, t4, t5, k, tk, li, .head _, .tail _ (.head _)⟩
      off := off_of g2 (fun p hp => (hf p hp).2) hfr
      dct := ⟨y, _, hd, by cases o <;> simp [dnRow]⟩
      sys := lo
      src := ⟨_, _, res_src ⟨dz, t1, t2, t3, t4, t5, tk, li, nl, .tail _ (.head _), .tail _ (.tail _ (.head _)), .tail _ (.tail _ (.tail _ (.head _)))⟩ hk hc (by omega) ⟨od, .head _, hd, lo⟩ (hy.mono fun p hp => List.mem_append_right _ hp) (hV.mono fun p hp => List.mem_append_right _ hp)⟩ }
end
section
variable {w : World} {loose : List Str} {mean : ExcName → Option Value} {mg mb : Str → Option Value} {H₀ H : Heap} {l : List (Addr × Obj)}
section
variable {x y : Addr} {a b N : Int} {o o' : Option Addr} {V V' : Option VD} {As As' : List (Str × VD)}
theorem Two.plus (T : Two w l x y a b N o o' V V' As As') (G : Gr w loose mean mg mb H₀) (Vl : Val H₀ H l) (hN : a * b = N) (h1 : 1 ≤ N) (h9 : N ≤ 9) (ha : 1 ≤ a ∧ a ≤ 3) (hb : 1 ≤ b ∧ b ≤ 3) (nv : Value) (t : Tok) : Ctr w H₀ 376 [.str sPlus t, .ref x, .ref y, nv] 22 220 H [] (fun h' r => Made w l a b (V.or V') H h' r) := by
  obtain ⟨k, k', its, its', xs, xs', av, av', n, m, ox, oy, P⟩ := T
  exact ((arith_ctr (.inl rfl) G Vl ox.vec oy.vec ox.kind oy.kind ox.len oy.len P hN h1 (by omega) ha hb ox.dn oy.dn ox.row oy.row ox.are oy.are ox.room oy.room).room (by omega) (by omega)).post fun _ _ R => R.told (.inl rfl) h9 ox.head oy.head
theorem Two.mod (T : Two w l x y a b N o o' V V' As As') (G : Gr w loose mean mg mb H₀) (Vl : Val H₀ H l) (hN : a * b = N) (h1 : 1 ≤ N) (h9 : N ≤ 9) (ha : 1 ≤ a ∧ a ≤ 3) (hb : 1 ≤ b ∧ b ≤ 3) (nv : Value) (t : Tok) : Ctr w H₀ 376 [.str sMod t, .ref x, .ref y, nv] 22 220 H [] (fun h' r => Made w l a b (V.or V') H h' r) := by
  obtain ⟨k, k', its, its', xs, xs', av, av', n, m, ox, oy, P⟩ := T
  exact ((arith_ctr (.inr rfl) G Vl ox.vec oy.vec ox.kind oy.kind ox.len oy.len P hN h1 (by omega) ha hb ox.dn oy.dn ox.row oy.row ox.are oy.are ox.room oy.room).room (by omega) (by omega)).post fun _ _ R => R.told (.inl rfl) h9 ox.head oy.head
theorem Two.land (T : Two w l x y a b N o o' V V' As As') (G : Gr w loose mean mg mb H₀) (Vl : Val H₀ H l) (hN : a * b = N) (h1 : 1 ≤ N) (h9 : N ≤ 9) (ha : 1 ≤ a ∧ a ≤ 3) (hb : 1 ≤ b ∧ b ≤ 3) (nv : Value) : Ctr w H₀ 454 [.ref x, .ref y, nv] 22 220 H [] (fun h' r => Made w l a b (V.or V') H h' r) := by
  obtain ⟨k, k', its, its', xs, xs', av, av', n, m, ox, oy, P⟩ := T
  exact (land_ctr G Vl ox.vec oy.vec ox.kind oy.kind ox.len oy.len P hN h1 (by omega) ha hb ox.dn oy.dn ox.are oy.are).post fun _ _ R => R.told (.inr rfl) h9 ox.head oy.head
theorem Two.lor (T : Two w l x y a b N o o' V V' As As') (G : Gr w loose mean mg mb H₀) (Vl : Val H₀ H l) (hN : a * b = N) (h1 : 1 ≤ N) (h9 : N ≤ 9) (ha : 1 ≤ a ∧ a ≤ 3) (hb : 1 ≤ b ∧ b ≤ 3) (nv : Value) : Ctr w H₀ 461 [.ref x, .ref y, nv] 22 220 H [] (fun h' r => Made w l a b (V.or V') H h' r) := by
  obtain ⟨k, k', its, its', xs, xs', av, av', n, m, ox, oy, P⟩ := T
  exact (lor_ctr G Vl ox.vec oy.vec ox.kind oy.kind ox.len oy.len P hN h1 (by omega) ha hb ox.dn oy.dn ox.are oy.are).post fun _ _ R => R.told (.inr rfl) h9 ox.head oy.head
theorem Two.left (T : Two w l x y a b N o o' V V' As As') : ∃ V0 V1, SrcOf w l 4 (.ref x) (.tup [V0, V1, .dct As]) := by
  obtain ⟨k, k', its, its', xs, xs', av, av', n, m, ox, oy, P⟩ := T
  exact ⟨_, _, ox.src⟩
theorem Two.right (T : Two w l x y a b N o o' V V' As As') : ∃ V0 V1, SrcOf w l 4 (.ref y) (.tup [V0, V1, .dct As']) := by
  obtain ⟨k, k', its, its', xs, xs', av, av', n, m, ox, oy, P⟩ := T
  exact ⟨_, _, oy.src⟩
theorem Two.as (T : Two w l x y a b N o o' V V' As As') : AsOf a b V As ∧ AsOf a b V' As' := by
  obtain ⟨k, k', its, its', xs, xs', av, av', n, m, ox, oy, P⟩ := T
  exact ⟨ox.has, oy.has⟩
end
section
variable {x d y : Addr} {k : Str} {its : List Value} {a b N : Int} {o : Option Addr} {V : Option VD}
theorem dnRow_len {o : Option Addr} {v : Value} : ((sDim, v) :: dnRow o none).length < 10 := by cases o <;> simp [dnRow]
theorem Mat.neg (M : Mat w l x k its d y a b o) (G : Gr w loose mean mg mb H₀) (Vl : Val H₀ H l) (hN : a * b = N) (h9 : N ≤ 9) (hV : HeadV w l o V) (nv : Value) : Ctr w H₀ 395 [.ref x, nv] 22 220 H [] (fun h' r => Made w l a b V H h' r) := by
  first | (refine x1_2 (M.bits) ?_; intro xs hi hr) | obtain ⟨xs, hi, hr⟩ := M.bits
  have hl : (its.length : Int) = N := by rw [M.len, hN]
  exact ((negate_ctr G Vl M.vec M.kind M.dct hi (by omega) hl dnRow_len).room (by omega) (by omega)).post fun _ _ R => R.told (.inl rfl) h9 hV M.dim
theorem Mat.pos (M : Mat w l x k its d y a b o) (G : Gr w loose mean mg mb H₀) (Vl : Val H₀ H l) (hN : a * b = N) (h9 : N ≤ 9) (hV : HeadV w l o V) (nv : Value) : Ctr w H₀ 402 [.ref x, nv] 22 220 H [] (fun h' r => Made w l a b V H h' r) := by
  first | (refine x1_2 (M.bits) ?_; intro xs hi hr) | obtain ⟨xs, hi, hr⟩ := M.bits
  have hl : (its.length : Int) = N := by rw [M.len, hN]
  exact ((plus_ctr G Vl M.vec M.kind M.dct hi (by omega) hl dnRow_len).room (by omega) (by omega)).post fun _ _ R => R.told (.inl rfl) h9 hV M.dim
theorem Mat.inv (M : Mat w l x k its d y a b o) (G : Gr w loose mean mg mb H₀) (Vl : Val H₀ H l) (hN : a * b = N) (h1 : 1 ≤ N) (h9 : N ≤ 9) (ha : 1 ≤ a ∧ a ≤ 3) (hb : 1 ≤ b ∧ b ≤ 3) (hV : HeadV w l o V) : Ctr w H₀ 466 [.ref x] 22 220 H [] (fun h' r => Made w l a b V H h' r) := by
  first | (refine x1_2 (M.bits) ?_; intro xs hi hr) | obtain ⟨xs, hi, hr⟩ := M.bits
  have hl : (its.length : Int) = N := by rw [M.len, hN]
  rcases M.kind with rfl | rfl
  · refine ((not_int (ox' := o) (kvs := []) G Vl M.vec M.dimA ?_ hi hl (by decide) hN h1 (by omega) ha hb).room (by omega) (by omega)).post fun _ _ R => ?_
    · refine .inr ⟨d, _, rfl, M.dct, ?_⟩
      cases o <;> rfl
    · have := R.told (.inr rfl) h9 hV hV
      rwa [show V.or V = V by cases V <;> rfl] at this
  · exact ((not_log G Vl M.vec M.dct hi hl dnRow_len (by omega)).room (by omega) (by omega)).post fun _ _ R => R.told (.inr rfl) h9 hV M.dim
end
end
section
variable {w : World} {loose : List Str} {mean : ExcName → Option Value} {mg mb : Str → Option Value} {H₀ H : Heap}
theorem m_two {prog : Program} {A : Around} {E : Value → Shared → Prop} {s : Shared} {h₀ : Heap} {L : Addr} {news : List (Addr × Obj)} {value slice : PySem.Expr} {t : Addr} {q0 q1 q2 : Value} {u : Tok} {Q : Value → Shared → Prop} (N : News h₀ L s.heap news) (hm : (t, tupObj [q0, q1, q2]) ∈ news) (h : Q q2 s)
    (hs : subscripted slice false (.ref t) (.int 2 u) = operate [.ref t, .int 2 u] (getItem (.ref t) (.int 2 u)) := by with_unfolding_all rfl) : wpAny (model prog w) A (subscriptTail value slice (.ref t) (.int 2 u)) Q E s :=
  item_tupleT (l := [q0, q1, q2]) (j := 2) ⟨_, (N _ hm).1, rfl, _, rfl⟩ (by decide) (by decide) rfl rfl h hs
theorem sub_via {l1 l2 : List (Addr × Obj)} (h : ∀ p ∈ l1, p ∈ l2) {p : Addr × Obj} (hp : p ∈ l1) : p ∈ l2 := h p hp
theorem held_in {g h : Heap} {L : Addr} {news l : List (Addr × Obj)} (N : News g L h news) (hs : ∀ p ∈ l, p ∈ news) : ∀ p ∈ l, h.get? p.1 = some p.2 := fun p hp => (N p (hs p hp)).1
theorem news_tuck {g h : Heap} {L : Addr} {tl cs l : List (Addr × Obj)} (N : News g L h (tl ++ (cs ++ l))) : News g L h (cs ++ (tl ++ l)) := fun p hp => N p ((List.mem_append.mp hp).elim (fun hp => List.mem_append_right _ (List.mem_append_left _ hp)) fun hp => (List.mem_append.mp hp).elim (List.mem_append_left _) fun hp => List.mem_append_right _ (List.mem_append_right _ hp))
theorem news_tuck2 {g h : Heap} {L : Addr} {x y : Addr × Obj} {tl cs l : List (Addr × Obj)} (N : News g L h (x :: y :: (tl ++ (cs ++ l)))) : News g L h (cs ++ (x :: y :: (tl ++ l))) := fun p hp => N p (by
  simp only [List.mem_append, List.mem_cons] at hp ⊢
  rcases hp with hp | hp | hp | hp | hp <;> simp [hp])
theorem news_unr {g h : Heap} {L : Addr} {x y z : Addr × Obj} {rest t B : List (Addr × Obj)} (N : News g L h ((z :: (rest ++ t)) ++ B ++ [x, y])) : News g L h (x :: y :: z :: (rest ++ (t ++ B))) := news_sub N (by
  intro p hp
  simp only [List.mem_append, List.mem_cons, List.not_mem_nil, or_false] at hp ⊢
  rcases hp with hp | hp | hp | hp | hp | hp <;> simp [hp])
theorem view_rule (G : Gr w loose mean mg mb H₀) {g : Heap} {L : Addr} {m : Str → Option Value} {news l : List (Addr × Obj)} {n : Nat} {v : Value} {V0 V1 : VD} {As : List (Str × VD)} {dp un : Nat} {fr : Option (List Env)} {gd : Option (List Code)} {s : Shared} {Q E : Value → Shared → Prop}
    (src : SrcOf w l n v (.tup [V0, V1, .dct As])) (st : H₀.StaysIn g) (F : Fr g L s.heap m) (N : News g L s.heap news) (sub : ∀ p ∈ l, p ∈ news) (h1 : dp + (4 * n + 4) < recursionLimit) (h2 : un + (40 * n + 40) < cLine)
    (k : ∀ T q0 q1 D o kvs tl h' tk', Fr g L h' m → News g L h' ((T, tupObj [q0, q1, .ref D]) :: (D, o) :: (tl ++ news)) → o.IsDictOf (PySem.strKind PG w) kvs → (D == sysModules) = false → kvs.map (·.1) = As.map (·.1) → (∀ (j : Nat) (h : j < kvs.length) (h' : j < As.length), ViewOf w tl (2 * n) kvs[j].2 As[j].2) →
      ViewOf w tl (2 * n) (.ref T) (.tup [V0, V1, .dct As]) → ViewOf w tl (2 * n) (.ref D) (.dct As) → Q (.ref T) { s with heap := h', toks := tk' }) :
    wpAny (model PG w) (mkA dp un fr gd) (call (.ref 485) [v]) Q E s := by
  refine view_ctr G n l v _ src s.heap ((val_now st N).sub sub) dp un fr gd s Q E rfl (stays_now st F) h1 h2 ?_
  intro r h' tk' kp ⟨tl, hf, hv⟩
  first | (refine x6_8 (view_parts hv) ?_; intro T q0 q1 D o kvs e9z hT hD hd lo hk hvs hDv; subst e9z) | obtain ⟨T, q0, q1, D, o, kvs, rfl, hT, hD, hd, lo, hk, hvs, hDv⟩ := view_parts hv
  have F' := fr_back0 F kp
  have N' := news_app F hf (news_back0 N kp)
  exact k T q0 q1 D o kvs tl h' tk' F' (fun p hp => (List.mem_cons.mp hp).elim (fun e => e ▸ N' _ (List.mem_append_left _ hT)) fun hp => (List.mem_cons.mp hp).elim (fun e => e ▸ N' _ (List.mem_append_left _ hD)) (N' p)) hd lo hk hvs hv hDv
theorem stored_dim {k : Str} {y v : Value} {hs : List (Str × Value)} (hn : sDim ≠ k) : valueAt (stored ((sDim, y) :: hs) k v) sDim = some y := by
  unfold stored
  split
  · rw [List.map_cons, if_neg hn]; simp [valueAt]
  · simp [valueAt]
theorem stored_room {k : Str} {y v : Value} {hs : List (Str × Value)} (h : hs.length < 5) : (stored ((sDim, y) :: hs) k v).length ≤ sizeLine := by
  have := stored_length_le ((sDim, y) :: hs) k v
  rw [sizeLine_eq]
  simp only [List.length_cons] at this
  omega
theorem dim_room {y : Value} {hs : List (Str × Value)} (h : hs.length < 5) : ((sDim, y) :: hs).length ≤ sizeLine := by
  rw [sizeLine_eq]
  simp only [List.length_cons]
  omega
theorem allLt_ne {a : Addr} : ∀ {l : List (Addr × Obj)}, AllLt a l → ∀ p ∈ l, @Ne Nat p.1 a
  | [], _, p, hp => nomatch hp
  | q :: r, h, p, hp => by
    rcases List.mem_cons.mp hp with rfl | hp
    · exact Nat.ne_of_lt h.1
    · exact allLt_ne h.2 p hp
theorem Told.snoc {l : List (Addr × Obj)} {a b : Int} {V : Option VD} {z d : Addr} {od : Obj} {rest : List (Addr × Obj)} (ht : TOne w l a b V z d od rest) {zs : List Value} {tl : List (Addr × Obj)} (h : Told w l a b V zs tl) : (∀ p ∈ (d, od) :: rest, ∀ q ∈ tl ++ l, @Ne Nat p.1 q.1) → Told w l a b V (zs ++ [.ref z]) (tl ++ ((d, od) :: rest)) := by
  induction h with
  | nil =>
    intro off
    have := Told.cons (zs := []) (tl := []) ht (fun _ h => nomatch h) (fun p hp e => off (d, od) (.head _) p (List.mem_append_right _ hp) e.symm) .nil
    rw [List.append_nil] at this
    exact this
  | cons h1 h2 h3 h4 ih =>
    intro off
    have ih := ih fun p hp q hq => off p hp q (by
      rcases List.mem_append.mp hq with hq | hq
      · exact List.mem_append_left _ (List.mem_append_right _ hq)
      · exact List.mem_append_right _ hq)
    rw [List.append_assoc]
    refine Told.cons h1 (fun p hp => ?_) h3 ih
    rcases List.mem_append.mp hp with hp | hp
    · exact h2 p hp
    · exact off p hp (_, _) (List.mem_append_left _ (List.mem_append_left _ (.head _)))
/-- the results so far, held by the ledger B over the ledger l -/
def ToldAt (w : World) (l B : List (Addr × Obj)) (a b : Int) (V : Option VD) (zs : List Value) : Prop := ∃ tl, Told w l a b V zs tl ∧ ∀ p ∈ tl ++ l, p ∈ B
theorem ToldAt.nil {l : List (Addr × Obj)} {a b : Int} {V : Option VD} : ToldAt w l l a b V [] := ⟨[], .nil, fun _ h => h⟩
theorem told_rule {f : Addr} {args : List Value} {g : Heap} {L : Addr} {m : Str → Option Value} {news l l0 B : List (Addr × Obj)} {a b : Int} {V : Option VD} {zs : List Value} {dp un : Nat} {fr : Option (List Env)} {gd : Option (List Code)} {s : Shared} {Q E : Value → Shared → Prop}
    (c : Val H₀ s.heap l0 → Ctr w H₀ f args 22 220 s.heap [] (fun h' r => Made w l0 a b V s.heap h' r)) (st : H₀.StaysIn g) (F : Fr g L s.heap m) (N : News g L s.heap news) (T : ToldAt w l B a b V zs) (sub0 : ∀ p ∈ l0, p ∈ l) (sub : ∀ p ∈ B, p ∈ news) (h1 : dp + 22 < recursionLimit) (h2 : un + 220 < cLine)
    (k : ∀ z B' h' tk', Fr g L h' m → News g L h' B' → ToldAt w l B' a b V (zs ++ [.ref z]) → Q (.ref z) { s with heap := h', toks := tk' }) :
    wpAny (model PG w) (mkA dp un fr gd) (call (.ref f) args) Q E s := by
  first | (refine x1_2 (T) ?_; intro tl ht hs; clear T) | obtain ⟨tl, ht, hs⟩ := T
  refine c ((val_now st N).sub fun p hp => sub p (hs p (List.mem_append_right _ (sub0 p hp)))) dp un fr gd s Q E rfl (stays_now st F) h1 h2 ?_
  rintro r h' tk' kp ⟨z, d, od, rest, rfl, hf, ho⟩
  have N' := news_sub (news_back0 N kp) sub
  refine k z _ h' tk' (fr_back0 F kp) (news_app F hf N') ⟨tl ++ ((d, od) :: rest), ht.snoc (ho.mono sub0) (fun p hp q hq e => ?_), fun p hp => ?_⟩
  · have h3 := (hf p hp).1
    rw [e, (N q (sub q (hs q hq))).1] at h3
    cases h3
  · rcases List.mem_append.mp hp with hp | hp
    · rcases List.mem_append.mp hp with hp | hp
      · exact List.mem_append_right _ (hs p (List.mem_append_left _ hp))
      · exact List.mem_append_left _ hp
    · exact List.mem_append_right _ (hs p (List.mem_append_right _ hp))
/-- the shown parts of a side: with dimnames or without -/
def SideOf (w : World) (l : List (Addr × Obj)) (n : Nat) (kvs : List (Str × Value)) : Option VD → Prop
  | none => valueAt kvs sDn = none
  | some V => ∃ z, valueAt kvs sDn = some z ∧ ViewOf w l n z V
theorem map_one {kvs : List (Str × Value)} {x : Str} (h : kvs.map (·.1) = [x]) : ∃ q, kvs = [(x, q)] := by
  cases kvs with
  | nil => cases h
  | cons p r =>
    cases r with
    | cons _ _ => cases h
    | nil => exact ⟨p.2, by rw [← (List.cons.inj h).1]⟩
theorem map_two {kvs : List (Str × Value)} {x y : Str} (h : kvs.map (·.1) = [x, y]) : ∃ q q', kvs = [(x, q), (y, q')] := by
  cases kvs with
  | nil => cases h
  | cons p r =>
    first | (refine x1_1 (map_one (List.cons.inj h).2) ?_; intro q' e9z; subst e9z) | obtain ⟨q', rfl⟩ := map_one (List.cons.inj h).2
    exact ⟨p.2, q', by rw [← (List.cons.inj h).1]⟩
theorem side_of {l : List (Addr × Obj)} {n : Nat} {a b : Int} {V : Option VD} {As : List (Str × VD)} {kvs : List (Str × Value)} (h : AsOf a b V As) (hk : kvs.map (·.1) = As.map (·.1)) (hv : ∀ (j : Nat) (h : j < kvs.length) (h' : j < As.length), ViewOf w l n kvs[j].2 As[j].2) : SideOf w l n kvs V := by
  cases h with
  | bare =>
    obtain rfl := List.map_eq_nil_iff.mp hk
    exact (rfl : valueAt [] sDn = none)
  | names W =>
    first | (refine x1_1 (map_one (x := sNm) hk) ?_; intro q e9z; subst e9z) | obtain ⟨q, rfl⟩ := map_one (x := sNm) hk
    exact (rfl : valueAt [(sNm, q)] sDn = none)
  | mat V =>
    cases V with
    | none =>
      first | (refine x1_1 (map_one (x := sDim) hk) ?_; intro q e9z; subst e9z) | obtain ⟨q, rfl⟩ := map_one (x := sDim) hk
      exact (rfl : valueAt [(sDim, q)] sDn = none)
    | some W =>
      first | (refine x2_1 (map_two (x := sDim) (y := sDn) hk) ?_; intro q q' e9z; subst e9z) | obtain ⟨q, q', rfl⟩ := map_two (x := sDim) (y := sDn) hk
      exact ⟨q', rfl, hv 1 (Nat.lt_succ_self 1) (Nat.lt_succ_self 1)⟩
theorem SideOf.mono {l l' : List (Addr × Obj)} {n : Nat} {kvs : List (Str × Value)} {V : Option VD} (h : SideOf w l n kvs V) (hm : ∀ p ∈ l, p ∈ l') : SideOf w l' n kvs V := by
  cases V with
  | none => exact h
  | some V => obtain ⟨z, e, h⟩ := h; exact ⟨z, e, h.mono hm⟩
/-- what due holds under dimnames, side by side -/
def pickV (V1 V2 : Option VD) : Nat → Option VD
  | 0 => none
  | 1 => V2
  | _ => V1.or V2
theorem isSome_some {kvs : List (Str × Value)} {k : Str} {z : Value} (h : valueAt kvs k = some z) : (valueAt kvs k).isSome = true := by rw [h]; rfl
theorem isSome_none {kvs : List (Str × Value)} {k : Str} (h : valueAt kvs k = none) : (valueAt kvs k).isSome = false := by rw [h]; rfl
theorem HsV.set {l : List (Addr × Obj)} {n : Nat} {hs : List (Str × Value)} {V : Option VD} {W : VD} {y z : Value} (h : HsV w l n hs V) (hz : ViewOf w l n z W) : ∃ hs', stored ((sDim, y) :: hs) sDn z = (sDim, y) :: hs' ∧ HsV w l n hs' (some W) := by
  cases V with
  | none => obtain rfl : hs = [] := h
            exact ⟨[(sDn, z)], rfl, z, rfl, hz⟩
  | some V => obtain ⟨q, rfl, hq⟩ := h
              exact ⟨[(sDn, z)], rfl, z, rfl, hz⟩
theorem HsV.room {l : List (Addr × Obj)} {n : Nat} {hs : List (Str × Value)} {V : Option VD} (h : HsV w l n hs V) {y : Value} : ((sDim, y) :: hs).length ≤ sizeLine := by
  rw [sizeLine_eq]
  cases V with
  | none => obtain rfl : hs = [] := h
            simp
  | some V => obtain ⟨q, rfl, hq⟩ := h
              simp
theorem GrowPost.fin {h₀ : Heap} {L I : Addr} {J : (Str → Option Value) → List (Addr × Obj) → Prop} {own : List (Addr × Obj)} {s₁ : Shared} {Q : Flow → Shared → Prop} {h : Heap} {tk : Nat} {m : Str → Option Value} {news' nx : List (Addr × Obj)}
    (F : Fr h₀ L h m) (N : News h₀ L h news') (h1 : ∀ p ∈ nx, p ∈ news') (h2 : ∀ p ∈ own, p ∈ news') (h3 : ∀ p ∈ nx, @Ne Nat p.1 I) (j : J m nx) : GrowPost h₀ L J own I s₁ Q .next { s₁ with heap := h, toks := tk } := ⟨h, tk, m, news', nx, rfl, F, N, h1, h2, h3, j⟩
end
local macro_rules | `(tactic| k_all) => `(tactic| assumption)
local macro_rules | `(tactic| walk_at "m_tuck") => do
    let mut t ← `(tactic| fail "tuck")
    for i in [0:13] do
      let hs := Array.replicate i (← `(_))
      t ← `(tactic| first | (have N9 := news_tuck (cs := [$hs,*]) N8) | (have N9 := news_tuck2 (cs := [$hs,*]) N8) | ($t:tactic))
    `(tactic| ((with_reducible rename News _ _ _ _ => N8); ($t:tactic); clear N8; (simp only [List.append_nil, List.cons_append, List.nil_append, List.append_eq] at N9)))
local macro_rules | `(tactic| walk_at "m_sub") => `(tactic| (intro p9 hp9; (repeat (first | (with_reducible exact hp9) | (with_reducible exact List.mem_append_left _ hp9) | (refine sub_via ?_ hp9; with_reducible assumption) | apply List.mem_cons_of_mem | apply List.mem_append_right))))
local macro_rules | `(tactic| walk_at "call ref") => `(tactic| ((with_reducible show wpAny _ _ (call (Value.ref 485) [Value.ref _]) _ _ _); (with_reducible rename Fr _ _ _ _ => Fr9); (with_reducible rename News _ _ _ _ => Nw9); (with_reducible rename Gr _ _ _ _ _ _ => G9); k_dflt (k_dflt (refine' view_rule G9 ?src ?st Fr9 Nw9 ?sub ?r1 ?r2 ?_; (case src => assumption); (case st => assumption); (case sub => first | assumption | walk_at "m_sub"); (case r1 => walk_at "m_room"); (case r2 => walk_at "m_room"); k_whole); intro T9 q08 q19 D9 o9 kvs9 tl9 h9 tk9 F9 N9 hd9 lo9 hk9 hvs9 hv9 hD9; clear Fr9 Nw9; walk_at "m_tuck"; walk_at "m_df")))
local macro_rules | `(tactic| walk_at "subscriptTail Call") => `(tactic| (k_here; k_dflt (refine' m_two ?N ?m ?_; (case N => k_asm); (case m => walk_at "m_mm"); k_whole)))
local macro_rules | `(tactic| walk_at "setItem ref str") => `(tactic| (k_here; k_dflt (refine' kda_set (knd := PySem.strKind _ _) ?F ?N ?U ?d (strKind_is _ _ _ _) ?z ?_; (case F => k_asm); (case N => k_asm); (case U => k_updF); (case d => k_asm); (case z => first | assumption | exact HsV.room ‹_› | exact dim_room ‹_›)); intro h' o' F' N' hd'; (try dsimp only at N')))
local macro_rules | `(tactic| walk_at "call builtin:dict.pop") => `(tactic| (k_here; k_dflt (refine' pop_any (knd := PySem.strKind _ _) (strKind_is _ _ _ _) ?hp ?F ?N ?U ?d ?v ?z ?_; (case F => k_asm); (case N => k_asm); (case U => k_updF); (case d => k_asm); (case v => exact stored_dim (by decide)); (case z => exact stored_room ‹_›); (case hp => rfl); k_whole); intro h' o' F' N' hd'; (try dsimp only at N')))
local macro_rules | `(tactic| walk_at "compareOp NotEq ref ref") => `(tactic| refine Stop.go ?_)
local macro_rules | `(tactic| walk_at "compareOp NotEq ref ref") => `(tactic| ((with_reducible rename News _ _ _ _ => Nw9); k_dflt (refine' NeW.go (view_ne (held_in Nw9 ?hl) (held_in Nw9 ?hr) ?h ?h' ?u) ?_; (case h => with_reducible assumption); (case h' => with_reducible assumption); (case hl => walk_at "m_sub"); (case hr => walk_at "m_sub"); (case u => walk_at "m_room"); k_whole); (try dsimp only)))
local macro_rules | `(tactic| walk_at "subscriptTail Name Constant ref int") => `(tactic| (k_here; (with_reducible show wpAny _ _ (subscriptTail _ _ _ (Value.int 2 _)) _ _ _); k_dflt (refine' m_two ?N ?m ?_; (case N => k_asm); (case m => walk_at "m_mm"); k_whole)))
local macro_rules | `(tactic| walk_at "m_told") => `(tactic| ((case st => assumption); (case s0 => assumption); (case sb => first | exact fun p hp => hp | exact fun p hp => List.Mem.tail _ hp); (case r1 => walk_at "m_room"); (case r2 => walk_at "m_room"); k_whole))
local macro_rules | `(tactic| walk_at "s_nc") => `(tactic| fail_if_success (with_reducible show wpAny _ _ _ (Cut _ _ _ _) _ _))
theorem fresh_Law1 : True := by
  w_top off
  trivial
section
/-- the statements and the scope of the def at f -/
@[reducible] def partsOf {w : World} {f : Addr} {oc : Value} {od : Option Addr} {osl : Array (Option Value)} {name qual : Str} {params : Arguments} {body : List Stmt} {scope : Scope} {dV kV doc pm cdv ct : Value} {an : Option Addr}
    (_ : (Mine.hd.heap_39 w.params).lookup f = some ⟨oc, od, .func (fnOf name qual params body scope dV kV doc pm an cdv ct), osl⟩) : List Stmt × Scope := (body, scope)
def lawParts (w : World) : List Stmt × Scope := by
  walk_at "m_fill"
  refine' partsOf (w := w) (f := 495) ?ho
  case ho => k_is
def atS : List Stmt → Nat → List Stmt
  | [], _ => []
  | x :: _, 0 => [x]
  | _ :: r, n + 1 => atS r n
def forB : List Stmt → List Stmt
  | [.For _ _ b _ _] => b
  | _ => []
def forT : List Stmt → PySem.Expr
  | [.For t _ _ _ _] => t
  | _ => .Constant .none 0 ⟨0, 0, 0, 0⟩
/-- the turns of the law's loops -/
def pairBody (w : World) : List Stmt := forB (atS (lawParts w).1 6)
def pairTarget (w : World) : PySem.Expr := forT (atS (lawParts w).1 6)
def toldBody (w : World) : List Stmt := forB (atS (pairBody w) 3)
def unBody (w : World) : List Stmt := forB (atS (lawParts w).1 8)
abbrev lawEnv (w : World) (L : Addr) : Env := envOfC (Str.ofString "law") (lawParts w).2 L 495 (.ref 494)
theorem five_names {m : Str → Option Value} {v1 v2 v3 v4 v5 : Value} (h1 : m (Str.ofString "one") = some v1) (h2 : m (Str.ofString "two") = some v2) (h3 : m (Str.ofString "held") = some v3) (h4 : m (Str.ofString "due") = some v4) (h5 : m (Str.ofString "told") = some v5) :
    m = fun y => if y = Str.ofString "told" then some v5 else if y = Str.ofString "due" then some v4 else if y = Str.ofString "held" then some v3 else if y = Str.ofString "two" then some v2 else if y = Str.ofString "one" then some v1 else m y := by
  funext y
  split
  · next e => rw [e, h5]
  · split
    · next e => rw [e, h4]
    · split
      · next e => rw [e, h3]
      · split
        · next e => rw [e, h2]
        · split
          · next e => rw [e, h1]
          · rfl
end
section
variable {w : World} {loose : List Str} {mean : ExcName → Option Value} {mg mb : Str → Option Value} {H₀ H : Heap}
local macro_rules | `(tactic| walk_at "exec Assign") => `(tactic| ((with_reducible show wpAny _ _ (exec (Stmt.Assign [PySem.Expr.Subscript _ _ _] (PySem.Expr.Call _ _ _ _) _) _) _ _ _); (fail_if_success (with_reducible rename Stop True => zz9)); refine Stop.go ?_))
set_option maxHeartbeats 4000000 in
theorem told_turn (G : Gr w loose mean mg mb H₀) {g : Heap} {L I ax z d p q D0 hl : Addr} {l B2 rest tl : List (Addr × Obj)} {it ot od : Obj} {a b : Int} {V : Option VD} {W0 W1 W2 W3 : VD} {A1 A2 : List (Str × VD)} {m : Str → Option Value} {dp un : Nat} {fr : Option (List Env)} {gd : Option (List Code)} {s : Shared} {Q : Flow → Shared → Prop} {E : Value → Shared → Prop}
    (hdp : dp + 40 < recursionLimit) (hun : un + 500 < cLine) (st : H₀.StaysIn g) (X : (Mine.hd.heap_39 w.params).In g) (T : Top Mine.hd.view_39 loose mean mg mb g)
    (S1 : SrcOf w l 4 (.ref p) (.tup [W0, W1, .dct A1])) (S2 : SrcOf w l 4 (.ref q) (.tup [W2, W3, .dct A2])) (subl : ∀ p ∈ l, p ∈ B2) (HV : ViewOf w B2 (2 * 4 + 1) (.ref hl) (.lst [.tup [W0, W1, .dct A1], .tup [W2, W3, .dct A2]])) (DV : ViewOf w B2 (2 * 4 + 3) (.ref D0) (.dct (rowV a b V)))
    (TO : TOne w B2 a b V z d od rest) (off1 : ∀ p ∈ tl, p.1 ≠ d) (off2 : ∀ p ∈ B2, p.1 ≠ d) (neI : @Ne Nat I d) (neax : @Ne Nat ax d)
    (h1 : m (Str.ofString "one") = some (.ref p)) (h2 : m (Str.ofString "two") = some (.ref q)) (h3 : m (Str.ofString "held") = some (.ref hl)) (h4 : m (Str.ofString "due") = some (.ref D0)) (h5 : m (Str.ofString "told") = some (.ref z))
    (F : Fr g L s.heap m) (N : News g L s.heap ((I, it) :: (ax, ot) :: (d, od) :: (rest ++ (tl ++ B2))))
    (k : ∀ h tk, Fr g L h m → News g L h ((I, it) :: (ax, ot) :: (tl ++ B2)) → Q .next { s with heap := h, toks := tk }) :
    wpAny (model PG w) ((mkA dp un fr gd).deeper (lawEnv w L)) (execs (toldBody w) (lawEnv w L)) Q E s := by
  have em := five_names h1 h2 h3 h4 h5
  rw [em] at F
  clear h1 h2 h3 h4 h5
  unfold toldBody pairBody lawEnv lawParts
  dsimp only [partsOf, atS, forB]
  first | (refine x9_2 (TO.made) ?_; intro dz t1 t2 t3 t4 t5 kz tkz li mz mdz) | obtain ⟨dz, t1, t2, t3, t4, t5, kz, tkz, li, mz, mdz⟩ := TO.made
  first | (refine x2_2 (TO.dct) ?_; intro yv hs hod hlen) | obtain ⟨yv, hs, hod, hlen⟩ := TO.dct
  have lod := TO.sys
  first | (refine x2_1 (TO.src) ?_; intro U0 U1 S3) | obtain ⟨U0, U1, S3⟩ := TO.src
  have hC : ∀ p ∈ rest ++ (tl ++ B2), p.1 ≠ d := fun p hp => (List.mem_append.mp hp).elim (TO.off p) fun hp => (List.mem_append.mp hp).elim (off1 p) (off2 p)
  obtain ⟨C, hCe⟩ : ∃ C, C = rest ++ (tl ++ B2) := ⟨_, rfl⟩
  have subR : ∀ p ∈ rest, p ∈ C := fun p hp => hCe ▸ List.mem_append_left _ hp
  have subT : ∀ p ∈ tl ++ B2, p ∈ C := fun p hp => hCe ▸ List.mem_append_right _ hp
  have subC : ∀ p ∈ B2, p ∈ C := fun p hp => subT p (List.mem_append_right _ hp)
  have subL : ∀ p ∈ l, p ∈ C := fun p hp => subC p (subl p hp)
  rw [← hCe] at N hC
  have nz : @Ne Nat z d := TO.off _ mz
  have ndz : @Ne Nat dz d := TO.off _ mdz
  have N1 : News g L s.heap ((z, instObj 257 dz) :: (dz, vdict w t1 t2 t3 t4 t5 kz tkz li (.ref d)) :: (I, it) :: (ax, ot) :: (d, od) :: C) := news_sub N (faC (.tail _ (.tail _ (.tail _ (subR _ mz)))) (faC (.tail _ (.tail _ (.tail _ (subR _ mdz)))) (fun p hp => hp)))
  have subS : ∀ p ∈ ((d, od) :: rest) ++ B2, p ∈ (z, instObj 257 dz) :: (dz, vdict w t1 t2 t3 t4 t5 kz tkz li (.ref d)) :: (I, it) :: (ax, ot) :: (d, od) :: C := fun p hp => .tail _ (.tail _ (.tail _ (.tail _ ((List.mem_append.mp hp).elim (fun hp => (List.mem_cons.mp hp).elim (fun e => e ▸ .head _) fun hp => .tail _ (subR p hp)) fun hp => .tail _ (subC p hp)))))
  clear N hCe TO off1 off2 subR subl mz mdz
  k_steps
  unfold Stop
  rename News _ _ _ _ => N2
  have N3 := news_sub (l' := (z, instObj 257 dz) :: (dz, vdict w t1 t2 t3 t4 t5 kz tkz li (.ref d)) :: (I, it) :: (ax, ot) :: (d, od) :: C) N2 (by
    repeat (refine faC (by (repeat (first | (with_reducible apply List.mem_cons_self) | apply List.mem_cons_of_mem))) (?_))
    walk_at "m_sub")
  clear N2 subS S3
  have go9 : Stop True := trivial
  k_steps
  unfold Stop
  rename_i Ta qa0 qa1 Da oa kva tla ha tka hda loa hka hvaa hva hDa Tb qb0 qb1 Db ob kvb tlb hb tkb hdb lob hkb hvbb hvb hDb lx hx F5 N5 l5
  have HW : ViewOf w ((lx, listOf #[Value.ref Ta, Value.ref Tb] 0) :: (tlb ++ tla)) (2 * 4 + 1) (.ref lx) (.lst [.tup [W0, W1, .dct A1], .tup [W2, W3, .dct A2]]) := .lst (.head _) rfl fun j h h' => match j, h, h' with
    | 0, _, _ => hva.mono fun p hp => .tail _ (List.mem_append_right _ hp)
    | 1, _, _ => hvb.mono fun p hp => .tail _ (List.mem_append_left _ hp)
    | j + 2, h, _ => absurd h (by simp)
  refine NeW.go (view_ne (held_in N5 (faC (.head _) (?_))) (held_in N5 (by walk_at "m_sub")) HW HV (by walk_at "m_room")) ?_
  · intro p hp
    iterate 12 (apply List.mem_cons_of_mem)
    exact (List.mem_append.mp hp).elim (List.mem_append_left _) fun hp => List.mem_append_right _ (List.mem_append_left _ hp)
  · k_steps
    (try dsimp only)
    refine k _ _ (by rw [em]; exact F5) (news_sub N5 (faC (?_) (faC (?_) (?_))))
    · iterate 5 (apply List.mem_cons_of_mem)
      exact List.mem_cons_self
    · iterate 6 (apply List.mem_cons_of_mem)
      exact List.mem_cons_self
    · walk_at "m_sub"
theorem three_names {m : Str → Option Value} {v1 v2 v3 : Value} (h1 : m (Str.ofString "u") = some v1) (h2 : m (Str.ofString "held") = some v2) (h3 : m (Str.ofString "told") = some v3) :
    m = fun y => if y = Str.ofString "told" then some v3 else if y = Str.ofString "held" then some v2 else if y = Str.ofString "u" then some v1 else m y := by
  funext y
  split
  · next e => rw [e, h3]
  · split
    · next e => rw [e, h2]
    · split
      · next e => rw [e, h1]
      · rfl
set_option maxHeartbeats 4000000 in
theorem un_turn (G : Gr w loose mean mg mb H₀) {g : Heap} {L I ax z d x th Dh : Addr} {l B2 rest tl : List (Addr × Obj)} {it ot od : Obj} {qh0 qh1 : Value} {a b : Int} {V : Option VD} {W0 W1 : VD} {m : Str → Option Value} {dp un : Nat} {fr : Option (List Env)} {gd : Option (List Code)} {s : Shared} {Q : Flow → Shared → Prop} {E : Value → Shared → Prop}
    (hdp : dp + 40 < recursionLimit) (hun : un + 500 < cLine) (st : H₀.StaysIn g) (X : (Mine.hd.heap_39 w.params).In g) (T : Top Mine.hd.view_39 loose mean mg mb g)
    (S1 : SrcOf w l 4 (.ref x) (.tup [W0, W1, .dct (rowV a b V)])) (subl : ∀ p ∈ l, p ∈ B2) (mth : (th, tupObj [qh0, qh1, .ref Dh]) ∈ B2) (HV : ViewOf w B2 (2 * 4) (.ref th) (.tup [W0, W1, .dct (rowV a b V)])) (DV : ViewOf w B2 (2 * 4) (.ref Dh) (.dct (rowV a b V)))
    (TO : TOne w B2 a b V z d od rest) (off1 : ∀ p ∈ tl, p.1 ≠ d) (off2 : ∀ p ∈ B2, p.1 ≠ d) (neI : @Ne Nat I d) (neax : @Ne Nat ax d)
    (h1 : m (Str.ofString "u") = some (.ref x)) (h2 : m (Str.ofString "held") = some (.ref th)) (h3 : m (Str.ofString "told") = some (.ref z))
    (F : Fr g L s.heap m) (N : News g L s.heap ((I, it) :: (ax, ot) :: (d, od) :: (rest ++ (tl ++ B2))))
    (k : ∀ h tk, Fr g L h m → News g L h ((I, it) :: (ax, ot) :: (tl ++ B2)) → Q .next { s with heap := h, toks := tk }) :
    wpAny (model PG w) ((mkA dp un fr gd).deeper (lawEnv w L)) (execs (unBody w) (lawEnv w L)) Q E s := by
  have em := three_names h1 h2 h3
  rw [em] at F
  clear h1 h2 h3
  unfold unBody lawEnv lawParts
  dsimp only [partsOf, atS, forB]
  first | (refine x9_2 (TO.made) ?_; intro dz t1 t2 t3 t4 t5 kz tkz li mz mdz) | obtain ⟨dz, t1, t2, t3, t4, t5, kz, tkz, li, mz, mdz⟩ := TO.made
  first | (refine x2_2 (TO.dct) ?_; intro yv hs hod hlen) | obtain ⟨yv, hs, hod, hlen⟩ := TO.dct
  have lod := TO.sys
  first | (refine x2_1 (TO.src) ?_; intro U0 U1 S3) | obtain ⟨U0, U1, S3⟩ := TO.src
  have hC : ∀ p ∈ rest ++ (tl ++ B2), p.1 ≠ d := fun p hp => (List.mem_append.mp hp).elim (TO.off p) fun hp => (List.mem_append.mp hp).elim (off1 p) (off2 p)
  obtain ⟨C, hCe⟩ : ∃ C, C = rest ++ (tl ++ B2) := ⟨_, rfl⟩
  have subR : ∀ p ∈ rest, p ∈ C := fun p hp => hCe ▸ List.mem_append_left _ hp
  have subT : ∀ p ∈ tl ++ B2, p ∈ C := fun p hp => hCe ▸ List.mem_append_right _ hp
  have subC : ∀ p ∈ B2, p ∈ C := fun p hp => subT p (List.mem_append_right _ hp)
  have subL : ∀ p ∈ l, p ∈ C := fun p hp => subC p (subl p hp)
  rw [← hCe] at N hC
  have nz : @Ne Nat z d := TO.off _ mz
  have ndz : @Ne Nat dz d := TO.off _ mdz
  have nth : @Ne Nat th d := off2 _ mth
  have N1 : News g L s.heap ((th, tupObj [qh0, qh1, .ref Dh]) :: (z, instObj 257 dz) :: (dz, vdict w t1 t2 t3 t4 t5 kz tkz li (.ref d)) :: (I, it) :: (ax, ot) :: (d, od) :: C) := news_sub N (faC (.tail _ (.tail _ (.tail _ (subC _ mth)))) (faC (.tail _ (.tail _ (.tail _ (subR _ mz)))) (faC (.tail _ (.tail _ (.tail _ (subR _ mdz)))) (fun p hp => hp))))
  have subS : ∀ p ∈ ((d, od) :: rest) ++ B2, p ∈ (th, tupObj [qh0, qh1, .ref Dh]) :: (z, instObj 257 dz) :: (dz, vdict w t1 t2 t3 t4 t5 kz tkz li (.ref d)) :: (I, it) :: (ax, ot) :: (d, od) :: C := fun p hp => .tail _ (.tail _ (.tail _ (.tail _ (.tail _ ((List.mem_append.mp hp).elim (fun hp => (List.mem_cons.mp hp).elim (fun e => e ▸ .head _) fun hp => .tail _ (subR p hp)) fun hp => .tail _ (subC p hp))))))
  clear N hCe TO off1 off2 subR subl mz mdz
  k_steps
  unfold Stop
  rename News _ _ _ _ => N2
  have N3 := news_sub (l' := (z, instObj 257 dz) :: (dz, vdict w t1 t2 t3 t4 t5 kz tkz li (.ref d)) :: (I, it) :: (ax, ot) :: (d, od) :: C) N2 (by
    repeat (refine faC (by (repeat (first | (with_reducible apply List.mem_cons_self) | apply List.mem_cons_of_mem))) (?_))
    walk_at "m_sub")
  clear N2 subS S3
  have go9 : Stop True := trivial
  k_steps
  rename_i Ta qa0 qa1 Da oa kva tla ha tka F5 hda loa hka hvaa hva hDa N5
  refine k _ _ (by rw [em]; exact F5) (news_sub N5 (faC (?_) (faC (?_) (?_))))
  · iterate 4 (apply List.mem_cons_of_mem)
    exact List.mem_cons_self
  · iterate 5 (apply List.mem_cons_of_mem)
    exact List.mem_cons_self
  · walk_at "m_sub"
end
local macro_rules | `(tactic| walk_at "m_none43") => `(tactic| skip)
local macro_rules | `(tactic| walk_at "m_none44") => `(tactic| skip)
theorem fresh_Law2 : True := by
  w_top off
  trivial
section
variable {w : World} {loose : List Str} {mean : ExcName → Option Value} {mg mb : Str → Option Value} {H₀ H : Heap}
theorem two_ix {a b v : Value} {i : Nat} (h : [a, b][i]? = some v) : (i = 0 ∧ v = a) ∨ (i = 1 ∧ v = b) := by
  cases i with
  | zero => exact .inl ⟨rfl, (Option.some.inj h).symm⟩
  | succ i => cases i with
    | zero => exact .inr ⟨rfl, (Option.some.inj h).symm⟩
    | succ i => exact absurd h (by simp)
/-- a side's shown parts, held by the ledger -/
inductive SdIs (w : World) (B : List (Addr × Obj)) (V1 V2 : Option VD) (j : Nat) (v : Value) : Prop where
  | mk (Tz : Addr) (qz0 qz1 : Value) (Dz : Addr) (oz : Obj) (kvz : List (Str × Value)) (Vz : Option VD) (h1 : v = .ref Tz) (h2 : (Tz, tupObj [qz0, qz1, .ref Dz]) ∈ B) (h3 : (Dz, oz) ∈ B) (h4 : oz.IsDictOf (PySem.strKind PG w) kvz) (h5 : (Dz == sysModules) = false) (h6 : SideOf w B (2 * 4) kvz Vz) (h7 : pickV V1 V2 (j + 1) = Vz.or (pickV V1 V2 j)) : SdIs w B V1 V2 j v
theorem one_name {m : Str → Option Value} {v1 : Value} (h1 : m (Str.ofString "dims_x") = some v1) : m = fun y => if y = Str.ofString "dims_x" then some v1 else m y := by
  funext y
  split
  · next e => rw [e, h1]
  · rfl
theorem not_single {ns : List Str} {z a : Str} (hz : ns.contains z = false) (ha : ns.contains a = true) : ¬ [a].contains z = true := fun h => by
  have e : z = a := by simpa using h
  rw [e, ha] at hz
  cases hz
/-- how an error leaves the law's frame -/
local macro_rules | `(tactic| walk_at "exec For Tuple List cons nil") => `(tactic| refine Stop.go ?_)
local macro_rules | `(tactic| walk_at "compareOp In str ref") => `(tactic| (k_here; k_dflt (first | (refine' kda_in (knd := PySem.strKind _ _) ?N ?m ?d ?lo (strKind_is _ _ _ _) true (isSome_some ?v) ?_; (case v => assumption); (case N => k_asm); (case d => assumption); (case m => k_mem); (case lo => assumption); k_whole) | (refine' kda_in (knd := PySem.strKind _ _) ?N ?m ?d ?lo (strKind_is _ _ _ _) false (isSome_none ?v) ?_; (case v => assumption); (case N => k_asm); (case d => assumption); (case m => k_mem); (case lo => assumption); k_whole))))
local macro_rules | `(tactic| walk_at "getItem ref str") => `(tactic| (k_here; k_dflt (refine' kdt_getItem (knd := PySem.strKind _ _) ?N ?m ?d (strKind_is _ _ _ _) ?v ?_; (case v => assumption); (case N => k_asm); (case d => assumption); (case m => walk_at "m_mm"); k_whole)))
local macro_rules | `(tactic| walk_at "subscriptTail Subscript Constant ref str") => `(tactic| (k_here; k_dflt (refine' kdt_tail (knd := PySem.strKind _ _) (kvs := ?kv) ?N ?m ?d ?_; (case N => k_asm); (case m => walk_at "m_mm"); (case d => assumption); k_whole)))
local macro_rules | `(tactic| walk_at "subscriptTail Name Constant ref int") => `(tactic| (k_here; (fail_if_success (fail_if_success (with_reducible rename Two _ _ _ _ _ _ _ _ _ _ _ _ _ => zz9))); (fail_if_success (with_reducible show wpAny _ _ (subscriptTail _ _ _ (Value.int 2 _)) _ _ _)); k_dflt (refine' m_at ?N ?m ?a ?b ?c ?d ?_; (case N => k_asm); (case m => walk_at "m_mm"); (case d => rfl); (case a => decide); (case b => (simp only [List.length_cons, List.length_nil]; omega)); (case c => (simp only [List.length_cons, List.length_nil]; decide)); k_whole)))
local macro_rules | `(tactic| walk_at "call ref") => `(tactic| ((first | (with_reducible show wpAny _ _ (call (Value.ref 376) _) _ _ _) | (with_reducible show wpAny _ _ (call (Value.ref 454) _) _ _ _) | (with_reducible show wpAny _ _ (call (Value.ref 461) _) _ _ _)); (with_reducible rename Fr _ _ _ _ => Fr9); (with_reducible rename News _ _ _ _ => Nw9); (with_reducible rename ToldAt _ _ _ _ _ _ _ => Ta9); (with_reducible rename Two _ _ _ _ _ _ _ _ _ _ _ _ _ => Tw9); (with_reducible rename Gr _ _ _ _ _ _ => G9); k_dflt (k_dflt ((first | (refine' told_rule (fun V9 => Two.plus Tw9 G9 V9 ‹_› ‹_› ‹_› ‹_› ‹_› _ _) ?st Fr9 Nw9 Ta9 ?s0 ?sb ?r1 ?r2 ?_) | (refine' told_rule (fun V9 => Two.mod Tw9 G9 V9 ‹_› ‹_› ‹_› ‹_› ‹_› _ _) ?st Fr9 Nw9 Ta9 ?s0 ?sb ?r1 ?r2 ?_) | (refine' told_rule (fun V9 => Two.land Tw9 G9 V9 ‹_› ‹_› ‹_› ‹_› ‹_› _) ?st Fr9 Nw9 Ta9 ?s0 ?sb ?r1 ?r2 ?_) | (refine' told_rule (fun V9 => Two.lor Tw9 G9 V9 ‹_› ‹_› ‹_› ‹_› ‹_› _) ?st Fr9 Nw9 Ta9 ?s0 ?sb ?r1 ?r2 ?_)); walk_at "m_told"); intro z9 B9 h9 tk9 F9 N9 T9; clear Fr9 Nw9 Ta9; walk_at "m_df")))
set_option maxHeartbeats 8000000 in
theorem pair_turn (G : Gr w loose mean mg mb H₀) {g : Heap} {L I ax Tu p q dl nd : Nat} {l : List (Addr × Obj)} {it ot : Obj} {a b N : Int} {ta tb : Tok} {o1 o2 : Option Addr} {V1 V2 : Option VD} {A1 A2 : List (Str × VD)} {m : Str → Option Value} {dp un : Nat} {fr : Option (List Env)} {gd : Option (List Code)} {s : Shared} {Q : Flow → Shared → Prop}
    (hdp : dp + 40 < recursionLimit) (hun : un + 500 < cLine) (st : H₀.StaysIn g) (X : (Mine.hd.heap_39 w.params).In g) (T : Top Mine.hd.view_39 loose mean mg mb g)
    (two : Two w l p q a b N o1 o2 V1 V2 A1 A2) (hN : a * b = N) (hm1 : 1 ≤ N) (hm9 : N ≤ 9) (ha : 1 ≤ a ∧ a ≤ 3) (hb : 1 ≤ b ∧ b ≤ 3)
    (hdx : m (Str.ofString "dims_x") = some (.ref dl))
    (F : Fr g L s.heap m) (N4 : News g L s.heap ((Tu, tupObj [.ref p, .ref q]) :: (I, it) :: (ax, ot) :: (dl, listOf #[Value.int a ta, Value.int b tb] nd) :: l))
    (k : ∀ h tk m', (∀ z, [Str.ofString "one", Str.ofString "two", Str.ofString "held", Str.ofString "due", Str.ofString "side", Str.ofString "told"].contains z = false → m' z = m z) → Fr g L h m' → News g L h ((I, it) :: (ax, ot) :: (dl, listOf #[Value.int a ta, Value.int b tb] nd) :: l) → Q .next { s with heap := h, toks := tk }) :
    wpAny (model PG w) ((mkA dp un fr gd).deeper (lawEnv w L)) (assign (pairTarget w) (lawEnv w L) (.ref Tu)) (fun _ s₂ => wpAny (model PG w) ((mkA dp un fr gd).deeper (lawEnv w L)) (execs (pairBody w) (lawEnv w L)) Q (fun _ _ => False) s₂) (fun _ _ => False) s := by
  walk_at "m_fill"
  have em := one_name hdx
  rw [em] at F
  clear hdx
  unfold pairTarget pairBody lawEnv lawParts
  dsimp only [partsOf, atS, forB, forT]
  first | (refine x2_1 (two.left) ?_; intro W0 W1 S1) | obtain ⟨W0, W1, S1⟩ := two.left
  first | (refine x2_1 (two.right) ?_; intro W2 W3 S2) | obtain ⟨W2, W3, S2⟩ := two.right
  k_steps
  unfold Stop
  rename_i Tp qp0 qp1 Dp op kvp tlp hp tkp hdP lop hkp hvp hVp hDp Tq qq0 qq1 Dq oq kvq tlq hq tkq hdQ loq hkq hvq hVq hDq hl hh1 lh hh2 tkd D0 hh3 oD3 loD hdD3 lD E0 hh4 oE loE hsE fsE hiE fiE lE T0 hh5 lT0 hh6 oD hdD hh7 sx hh8 F8 N8 lsx
  obtain ⟨B, hB⟩ : ∃ B, B = (T0, tupObj [.str sI (tkd + 1), .ref dl, .ref E0]) :: (E0, oE) :: (hl, listOf #[Value.ref Tp, Value.ref Tq] 0) :: (Tu, tupObj [.ref p, .ref q]) :: (I, it) :: (ax, ot) :: (dl, listOf #[Value.int a ta, Value.int b tb] nd) :: (Tp, tupObj [qp0, qp1, .ref Dp]) :: (Dp, op) :: (Tq, tupObj [qq0, qq1, .ref Dq]) :: (Dq, oq) :: (tlq ++ (tlp ++ l)) := ⟨_, rfl⟩
  have N10 : News g L hh8 ((sx, listOf #[Value.ref Tq, Value.ref Tp] 0) :: (D0, oD) :: B) := by
    rw [hB]
    refine news_sub N8 ?_
    repeat (refine faC (by (repeat (first | (with_reducible apply List.mem_cons_self) | apply List.mem_cons_of_mem))) (?_))
    intro p hp
    iterate 13 (apply List.mem_cons_of_mem)
    assumption
  have mT0 : (T0, tupObj [.str sI (tkd + 1), .ref dl, .ref E0]) ∈ B := by rw [hB]; repeat (first | (with_reducible refine List.mem_cons_self) | apply List.mem_cons_of_mem)
  have mE0 : (E0, oE) ∈ B := by rw [hB]; repeat (first | (with_reducible refine List.mem_cons_self) | apply List.mem_cons_of_mem)
  have mhl : (hl, listOf #[Value.ref Tp, Value.ref Tq] 0) ∈ B := by rw [hB]; repeat (first | (with_reducible refine List.mem_cons_self) | apply List.mem_cons_of_mem)
  have mT : (Tu, tupObj [.ref p, .ref q]) ∈ B := by rw [hB]; repeat (first | (with_reducible refine List.mem_cons_self) | apply List.mem_cons_of_mem)
  have mI : (I, it) ∈ B := by rw [hB]; repeat (first | (with_reducible refine List.mem_cons_self) | apply List.mem_cons_of_mem)
  have max : (ax, ot) ∈ B := by rw [hB]; repeat (first | (with_reducible refine List.mem_cons_self) | apply List.mem_cons_of_mem)
  have mdl : (dl, listOf #[Value.int a ta, Value.int b tb] nd) ∈ B := by rw [hB]; repeat (first | (with_reducible refine List.mem_cons_self) | apply List.mem_cons_of_mem)
  have mTp : (Tp, tupObj [qp0, qp1, .ref Dp]) ∈ B := by rw [hB]; repeat (first | (with_reducible refine List.mem_cons_self) | apply List.mem_cons_of_mem)
  have mDp : (Dp, op) ∈ B := by rw [hB]; repeat (first | (with_reducible refine List.mem_cons_self) | apply List.mem_cons_of_mem)
  have mTq : (Tq, tupObj [qq0, qq1, .ref Dq]) ∈ B := by rw [hB]; repeat (first | (with_reducible refine List.mem_cons_self) | apply List.mem_cons_of_mem)
  have mDq : (Dq, oq) ∈ B := by rw [hB]; repeat (first | (with_reducible refine List.mem_cons_self) | apply List.mem_cons_of_mem)
  have sub0 : ∀ p ∈ tlq ++ (tlp ++ l), p ∈ B := by
    rw [hB]
    intro p hp
    iterate 11 (apply List.mem_cons_of_mem)
    assumption
  have subq : ∀ p ∈ tlq, p ∈ B := fun p hp => sub0 p (List.mem_append_left _ hp)
  have subp : ∀ p ∈ tlp, p ∈ B := fun p hp => sub0 p (List.mem_append_right _ (List.mem_append_left _ hp))
  have subl : ∀ p ∈ l, p ∈ B := fun p hp => sub0 p (List.mem_append_right _ (List.mem_append_right _ hp))
  have hBD : ∀ p ∈ B, @Ne Nat p.1 D0 := by
    rw [hB]
    repeat (refine faC (by k_ne) (?_))
    refine allLt_ne lD.2.2.2.2.2.2.2.2.2
  have nesx : @Ne Nat sx D0 := by omega
  have sdp := side_of two.as.1 hkp hvp
  have sdq := side_of two.as.2 hkq hvq
  have HV : ViewOf w B (2 * 4 + 1) (.ref hl) (.lst [.tup [W0, W1, .dct A1], .tup [W2, W3, .dct A2]]) := .lst mhl rfl fun j h h' => match j, h, h' with
    | 0, _, _ => hVp.mono subp
    | 1, _, _ => hVq.mono subq
    | j + 2, h, _ => absurd h (by simp)
  have hiE' : oE.IsDictOf (PySem.strKind PG w) [] := hsE
  clear hB hkp hvp hkq hvq hVp hVq hDp hDq N8 lsx lT0 lE lD lh sub0 hdD3 hsE fsE fiE hiE
  refine list_grow (its := [.ref Tq, .ref Tp]) [Str.ofString "side"] (fun i nx => ∃ o hs, nx = (D0, o) :: B ∧ o.IsDictOf (PySem.strKind PG w) ((sDim, .ref T0) :: hs) ∧ HsV w B (2 * 4) hs (pickV V1 V2 i)) rfl F8 N10 ⟨oD, [], rfl, hdD, rfl⟩ ?_ ?_
  · intro j v u' I2 ot2 it2 nx2 h2 tk2 hv2 qz0
    first | (refine x2_3 (qz0) ?_; intro o hs e9z ho hH; clear qz0; subst e9z) | obtain ⟨o, hs, rfl, ho, hH⟩ := qz0
    intro hn2 F2 N2
    have sd : SdIs w B V1 V2 j v := by
      rcases two_ix hv2 with ⟨ej, ev⟩ | ⟨ej, ev⟩ <;> subst ej
      · exact ⟨Tq, qq0, qq1, Dq, oq, kvq, V2, ev, mTq, mDq, hdQ, loq, sdq.mono subq, by cases V2 <;> rfl⟩
      · exact ⟨Tp, qp0, qp1, Dp, op, kvp, V1, ev, mTp, mDp, hdP, lop, sdp.mono subp, rfl⟩
    obtain ⟨Tz, qz0, qz1, Dz, oz, kvz, Vz, rfl, mTz, mDz, hdz, loz, sdz, ep⟩ := sd
    have N3 : News g L h2 ((Tz, tupObj [qz0, qz1, .ref Dz]) :: (Dz, oz) :: (D0, o) :: (I2, it2) :: (sx, ot2) :: B) := news_sub N2 (faC (List.mem_append_left _ (.tail _ mTz)) (faC (List.mem_append_left _ (.tail _ mDz)) (faC (.head _) (faC (List.mem_append_right _ (.head _)) (faC (List.mem_append_right _ (.tail _ (.head _))) (fun p hp => List.mem_append_left _ (.tail _ hp)))))))
    have neTz : @Ne Nat Tz D0 := hBD _ mTz
    have neDz : @Ne Nat Dz D0 := hBD _ mDz
    have neI2 : @Ne Nat I2 D0 := Ne.symm (hn2 (D0, o) (.head _))
    replace F2 : Fr g L h2 _ := F2
    clear N2 F8 N10
    cases Vz with
    | none =>
      have hv0 : valueAt kvz sDn = none := sdz
      k_steps
      rename Fr _ _ _ _ => F5
      rename News _ _ _ _ => N5
      (try dsimp only at F5 N5 ⊢)
      refine' GrowPost.fin F5 N5 ?_ ?_ ?_ ⟨⟨o, hs, rfl, ho, ?_⟩, ?_⟩
      · exact faC (.tail _ (.tail _ (.head _))) (fun p hp => .tail _ (.tail _ (.tail _ (.tail _ (.tail _ hp)))))
      · exact faC (.tail _ (.tail _ (.tail _ (.head _)))) (faC (.tail _ (.tail _ (.tail _ (.tail _ (.head _))))) (List.forall_mem_nil _))
      · exact hn2
      · rw [ep]; exact hH
      · walk_at "m_names2"
    | some W =>
      first | (refine x1_2 (sdz) ?_; intro z hz1 hz2; clear sdz) | obtain ⟨z, hz1, hz2⟩ := sdz
      first | (refine x1_2 (hH.set (y := .ref T0) hz2) ?_; intro hs' eh hH') | obtain ⟨hs', eh, hH'⟩ := hH.set (y := .ref T0) hz2
      k_steps
      rename_i hd5
      rename Fr _ _ _ _ => F5
      rename News _ _ _ _ => N5
      (try dsimp only at F5 N5 ⊢)
      refine' GrowPost.fin F5 N5 ?_ ?_ ?_ ⟨⟨_, hs', rfl, eh ▸ hd5, ?_⟩, ?_⟩
      · exact faC (.tail _ (.tail _ (.head _))) (fun p hp => .tail _ (.tail _ (.tail _ (.tail _ (.tail _ hp)))))
      · exact faC (.tail _ (.tail _ (.tail _ (.head _)))) (faC (.tail _ (.tail _ (.tail _ (.tail _ (.head _))))) (List.forall_mem_nil _))
      · exact faC (neI2.symm) (fun p hp => hn2 p (.tail _ hp))
      · rw [ep]; exact hH'
      · walk_at "m_names2"
  · intro u' nx2 h2 tk2 qz0
    first | (refine x2_3 (qz0) ?_; intro o hs e9z ho hH; clear qz0; subst e9z) | obtain ⟨o, hs, rfl, ho, hH⟩ := qz0
    intro F2 N2
    have DV : ViewOf w ((D0, o) :: B) (2 * 4 + 3) (.ref D0) (.dct (rowV a b (V1.or V2))) := due_view (.head _) ho loD (.tail _ mT0) (.tail _ mdl) (.tail _ mE0) hiE' loE (hH.mono fun p hp => .tail _ hp)
    obtain ⟨B2, hB2⟩ : ∃ B2, B2 = (D0, o) :: B := ⟨_, rfl⟩
    rw [← hB2] at DV N2
    have subB : ∀ p ∈ B, p ∈ B2 := fun p hp => hB2 ▸ .tail _ hp
    replace HV := HV.mono subB
    replace subl : ∀ p ∈ l, p ∈ B2 := fun p hp => subB p (subl p hp)
    have TA : ToldAt w B2 B2 a b (V1.or V2) [] := ToldAt.nil
    have fin0 : ∀ p ∈ (I, it) :: (ax, ot) :: (dl, listOf #[Value.int a ta, Value.int b tb] nd) :: l, p ∈ B2 := faC (subB _ mI) (faC (subB _ max) (faC (subB _ mdl) (subl)))
    clear hB2 subB mT0 mE0 mhl mT mI max mdl mTp mDp mTq mDq subq subp hBD nesx sdp sdq F8 N10
    k_steps
    unfold Stop
    rename_i n1 hn1 ln1 z1 Bz1 hz1 tz1 qz1 ez1 n2 hn2 ln2 z2 Bz2 hz2 tz2 qz2 ez2 n3 hn3 ln3 z3 Bz3 hz3 tz3 qz3 ez3 n4 hn4 ln4 z4 Bz4 hz4 tz4 T4 lx hlx F12 N12 l12
    first | (refine x1_2 (T4) ?_; intro tl ht hs4; clear T4) | obtain ⟨tl, ht, hs4⟩ := T4
    have ht0 : Told w B2 a b (V1.or V2) [.ref z1, .ref z2, .ref z3, .ref z4] tl := ht
    have nlx : ∀ p ∈ tl, @Ne Nat p.1 lx := fun p hp => Nat.ne_of_lt (l12 p (hs4 p (List.mem_append_left _ hp)))
    have N13 : News g L _ ((lx, listOf ([.ref z1, .ref z2, .ref z3, .ref z4] : List Value).toArray 0) :: (tl ++ B2)) := news_sub N12 (faC (.head _) (fun p hp => .tail _ (hs4 p hp)))
    replace F12 : Fr g L _ _ := F12
    clear N12 l12 ln1 ln2 ln3 ln4 ht hs4
    refine list_grow (its := [.ref z1, .ref z2, .ref z3, .ref z4]) [Str.ofString "told"] (fun i nx => ∃ tl', nx = tl' ++ B2 ∧ Told w B2 a b (V1.or V2) (([.ref z1, .ref z2, .ref z3, .ref z4] : List Value).drop i) tl' ∧ ∀ p ∈ tl', @Ne Nat p.1 lx) rfl F12 N13 ⟨tl, rfl, ht0, nlx⟩ ?_ ?_
    · intro j v u2 I2 ot2 it2 nx2 h3 tk3 hv2 qz0
      first | (refine x1_3 (qz0) ?_; intro tl' e9z ht' hlx'; clear qz0; subst e9z) | obtain ⟨tl', rfl, ht', hlx'⟩ := qz0
      intro hn2 F3 N3
      obtain ⟨hj, ev⟩ := List.getElem?_eq_some_iff.mp hv2
      rw [List.drop_eq_getElem_cons hj, ev] at ht'
      cases ht' with
      | @cons z d od rest tl1 zs TO off1 off2 ht1 =>
        have neI : @Ne Nat I2 d := Ne.symm (hn2 (d, od) (List.mem_append_left _ (List.mem_append_left _ (.head _))))
        have neax : @Ne Nat lx d := Ne.symm (hlx' (d, od) (List.mem_append_left _ (.head _)))
        have N4 : News g L h3 ((I2, it2) :: (lx, ot2) :: (d, od) :: (rest ++ (tl1 ++ B2))) := news_unr N3
        replace F3 : Fr g L h3 _ := F3
        clear N3 N13 F12
        refine told_turn (by assumption) hdp hun st X T S1 S2 subl HV DV TO off1 off2 neI neax rfl rfl rfl rfl rfl F3 N4 ?_
        intro h4 tk4 F4 N5
        exact GrowPost.fin F4 N5 (fun p hp => .tail _ (.tail _ hp)) (faC (.head _) (faC (.tail _ (.head _)) (List.forall_mem_nil _)))
          (fun p hp => hn2 p ((List.mem_append.mp hp).elim (fun hp => List.mem_append_left _ (List.mem_append_right _ hp)) (List.mem_append_right _)))
          ⟨⟨tl1, rfl, ht1, fun p hp => hlx' p (List.mem_append_right _ hp)⟩, by walk_at "m_names2"⟩
    · intro u3 nx3 h3 tk3 qz0
      first | (refine x1_3 (qz0) ?_; intro tl3 e9z zz2 zz3; clear qz0; subst e9z; clear zz2 zz3) | obtain ⟨tl3, rfl, -, -⟩ := qz0
      intro F13 N14
      k_steps
      (try dsimp only)
      refine k _ _ _ ?_ F13 (news_sub N14 fun p hp => List.mem_append_right _ (fin0 p hp))
      intro z hz
      refine (if_neg (not_single hz rfl)).trans ?_
      refine (if_neg (not_single hz rfl)).trans ?_
      refine (if_neg (ne_of_contains hz rfl)).trans ?_
      refine (if_neg (ne_of_contains hz rfl)).trans ?_
      refine (if_neg (ne_of_contains hz rfl)).trans ?_
      refine (if_neg (ne_of_contains hz rfl)).trans ?_
      exact (congrFun em z).symm
end
local macro_rules | `(tactic| walk_at "m_none45") => `(tactic| skip)
local macro_rules | `(tactic| walk_at "m_none46") => `(tactic| skip)
local macro_rules | `(tactic| walk_at "m_none47") => `(tactic| skip)
local macro_rules | `(tactic| walk_at "m_none48") => `(tactic| skip)
local macro_rules | `(tactic| walk_at "m_none49") => `(tactic| skip)
local macro_rules | `(tactic| walk_at "m_none50") => `(tactic| skip)
local macro_rules | `(tactic| walk_at "m_none51") => `(tactic| skip)
theorem fresh_Law : True := by
  w_top off
  trivial
section
variable {w : World} {loose : List Str} {mean : ExcName → Option Value} {mg mb : Str → Option Value} {H₀ H : Heap}
theorem mul_bound {a b : Int} (ha : 1 ≤ a ∧ a ≤ 3) (hb : 1 ≤ b ∧ b ≤ 3) : 1 ≤ a * b ∧ a * b ≤ 9 := by
  rcases (show a = 1 ∨ a = 2 ∨ a = 3 by omega) with rfl | rfl | rfl <;> omega
theorem apart_of {H h' : Heap} {g : Heap} {L r : Addr} {o : Obj} {tl news : List (Addr × Obj)} (_k : KeepBut [r] H h') (N : News g L H news) (hr : (r, o) ∈ news) (hf : ∀ p ∈ tl, H.get? p.1 = none ∧ h'.get? p.1 = some p.2) : ∀ p ∈ tl, p.1 ≠ r := fun p hp e => by
  have h1 := (hf p hp).1
  rw [e, (N _ hr).1] at h1
  cases h1
theorem Cut.fin {h₀ : Heap} {L : Addr} {s₁ : Shared} {J : (Str → Option Value) → List (Addr × Obj) → Prop} {h : Heap} {tk : Nat} {m : Str → Option Value} {nx : List (Addr × Obj)} (F : Fr h₀ L h m) (N : News h₀ L h nx) (j : J m nx) : Cut h₀ L s₁ J .next { s₁ with heap := h, toks := tk } := ⟨rfl, h, tk, m, nx, rfl, F, N, j⟩
theorem if_size {α : Type} {z : Str} {p q r : α} (hz : [Str.ofString "size"].contains z = false) : (if z = Str.ofString "v" then p else if z = Str.ofString "size" then q else r) = if z = Str.ofString "v" then p else r := by
  rw [if_neg (ne_of_contains hz rfl : ¬ z = Str.ofString "size")]
theorem cut_v {prog : Program} {A : Around} {E : Value → Shared → Prop} {s : Shared} {h₀ : Heap} {Q : Flow → Shared → Prop} {t : Sem Flow} {L : Addr} {m : Str → Option Value} (_F : Fr h₀ L s.heap m) (J : Addr → List (Addr × Obj) → Prop)
    (h1 : wpAny (model prog w) A t (Cut h₀ L s (fun m' nx => ∃ xv, (∀ z, [Str.ofString "size"].contains z = false → m' z = if z = Str.ofString "v" then some (.ref xv) else m z) ∧ J xv nx)) E s)
    (h2 : ∀ xv (u : Str → Option Value) h tk nx, Fr h₀ L h (fun z => if [Str.ofString "size"].contains z then u z else if z = Str.ofString "v" then some (.ref xv) else m z) → News h₀ L h nx → J xv nx → Q .next { s with heap := h, toks := tk }) : wpAny (model prog w) A t Q E s :=
  cut_here _ h1 fun h tk m' nx F N ⟨xv, e, j⟩ => h2 xv m' h tk nx (by
    have e' := ovr_of e
    rw [← e']; exact F) N j
theorem cut_int {prog : Program} {A : Around} {E : Value → Shared → Prop} {s : Shared} {h₀ : Heap} {Q : Flow → Shared → Prop} {t : Sem Flow} {L : Addr} {m : Str → Option Value} {ld : List (Addr × Obj)} (_F : Fr h₀ L s.heap m) (_N : News h₀ L s.heap ld) (x : Str) (J : Int → Prop)
    (h1 : wpAny (model prog w) A t (Cut h₀ L s (fun m' nx => ∃ n tk, m' = (fun z => if z = x then some (.int n tk) else m z) ∧ nx = ld ∧ J n)) E s)
    (h2 : ∀ n tk' h tk, Fr h₀ L h (fun z => if z = x then some (.int n tk') else m z) → News h₀ L h ld → J n → Q .next { s with heap := h, toks := tk }) : wpAny (model prog w) A t Q E s :=
  cut_here _ h1 fun h tk m' nx F N ⟨n, tk', e, e', j⟩ => h2 n tk' h tk (e ▸ F) (e' ▸ N) j
theorem DnOf.mono {l l' : List (Addr × Obj)} {av : Value} {o : Option Addr} (h : DnOf w l av o) (hs : ∀ p ∈ l, p ∈ l') : DnOf w l' av o := by
  rcases h with h | ⟨d, kvs, e, hd, hv⟩
  · exact .inl h
  · exact .inr ⟨d, kvs, e, hd.mono hs, hv⟩
theorem RowF.mono {l l' : List (Addr × Obj)} {av : Value} (h : RowF w l av) (hs : ∀ p ∈ l, p ∈ l') : RowF w l' av := by
  rcases h with h | ⟨d, kvs, y, z, e, hd, hv⟩
  · exact .inl h
  · exact .inr ⟨d, kvs, y, z, e, hd.mono hs, hv⟩
theorem DimA.mono {l l' : List (Addr × Obj)} {av : Value} {a b : Int} {hh : List (Str × Value)} (h : DimA w l av a b hh) (hs : ∀ p ∈ l, p ∈ l') : DimA w l' av a b hh := by
  obtain ⟨d, y, ta, tb, e, hd, hv⟩ := h
  exact ⟨d, y, ta, tb, e, hd.mono hs, hv.mono hs⟩
theorem NoDim.mono {l l' : List (Addr × Obj)} {av : Value} (h : NoDim w l av) (hs : ∀ p ∈ l, p ∈ l') : NoDim w l' av := by
  rcases h with h | ⟨d, v, e, hd⟩
  · exact .inl h
  · exact .inr ⟨d, v, e, hd.mono hs⟩
theorem Pair.mono {l l' : List (Addr × Obj)} {ax ay : Value} {n m N a b : Int} (h : Pair w l ax ay n m N a b) (hs : ∀ p ∈ l, p ∈ l') : Pair w l' ax ay n m N a b := by
  cases h with
  | mm h1 h2 h3 h4 => exact .mm h1 h2 (h3.mono hs) (h4.mono hs)
  | mv h1 h2 h3 h4 => exact .mv h1 h2 (h3.mono hs) (h4.mono hs)
  | vm h1 h2 h3 h4 => exact .vm h1 h2 (h3.mono hs) (h4.mono hs)
theorem Opnd.mono {l l' : List (Addr × Obj)} {x : Addr} {k : Str} {its : List Value} {xs : List Int} {av : Value} {n a b : Int} {o : Option Addr} {V : Option VD} {As : List (Str × VD)} (h : Opnd w l x k its xs av n a b o V As) (hs : ∀ p ∈ l, p ∈ l') : Opnd w l' x k its xs av n a b o V As :=
  { h with vec := h.vec.mono hs, dn := h.dn.mono hs, row := h.row.mono hs, head := h.head.mono hs, src := h.src.mono hs }
theorem Two.mono {l l' : List (Addr × Obj)} {x y : Addr} {a b N : Int} {o o' : Option Addr} {V V' : Option VD} {As As' : List (Str × VD)} (h : Two w l x y a b N o o' V V' As As') (hs : ∀ p ∈ l, p ∈ l') : Two w l' x y a b N o o' V V' As As' := by
  obtain ⟨k, k', its, its', xs, xs', av, av', n, m, h1, h2, h3⟩ := h
  exact ⟨k, k', its, its', xs, xs', av, av', n, m, h1.mono hs, h2.mono hs, h3.mono hs⟩
theorem Mat.mono {l l' : List (Addr × Obj)} {x d y : Addr} {k : Str} {its : List Value} {a b : Int} {o : Option Addr} (M : Mat w l x k its d y a b o) (hs : ∀ p ∈ l, p ∈ l') : Mat w l' x k its d y a b o :=
  { vec := M.vec.mono hs, kind := M.kind, bits := M.bits, len := M.len, dct := M.dct.mono hs, dim := let ⟨ta, tb, h⟩ := M.dim; ⟨ta, tb, h.mono hs⟩, heads := fun z e => let ⟨V, h⟩ := M.heads z e; ⟨V, h.mono hs⟩ }
/-- the two operands, this way and that -/
inductive Ops (w : World) (l : List (Addr × Obj)) (x y : Addr) (a b N : Int) (o : Option Addr) (V : Option VD) : Prop where
  | mk (o' : Option Addr) (V' : Option VD) (As' : List (Str × VD)) (h1 : Two w l x y a b N o o' V V' (rowV a b V) As') (h2 : Two w l y x a b N o' o V' V As' (rowV a b V)) : Ops w l x y a b N o V
local macro_rules | `(tactic| walk_at "storeName") => `(tactic| (k_here; k_dflt (refine' storeX_L ?F ?N ?_ ?a ?b; (case F => k_asm); (case N => k_asm); (case a => rfl); (case b => rfl); k_whole; intro h' F' N'; (try k_sweep))))
local macro_rules | `(tactic| walk_at "call ref") => `(tactic| ((with_reducible show wpAny _ _ (call (Value.ref 473) [Value.ref _]) _ _ _); (with_reducible rename Fr _ _ _ _ => Fr9); (with_reducible rename News _ _ _ _ => Nw9); (with_reducible rename Gr _ _ _ _ _ _ => G9); (with_reducible rename Heap.IsList _ _ _ => Hl9); (with_reducible rename IntsAre _ _ => Hi9); k_dflt (k_dflt (refine row_ctr G9 Hl9 Hi9 (by omega) _ _ _ _ _ _ _ rfl (stays_now ‹_› Fr9) (by walk_at "m_room") (by walk_at "m_room") ?_); intro rr9 hh9 tk9 kp9 ps9; (have F' := fr_back0 Fr9 kp9); (have N' := news_back0 Nw9 kp9); obtain ⟨r9, its9, ys9, n9, e9, f9, g9, hi9, hl9⟩ := ps9; subst e9; (have e9' := all_ne f9 Nw9); (simp only [AllNe, and_true] at e9'); (have N' := news_cons Fr9 f9 g9 N'); (have hl9' : its9.length < 200 := Nat.lt_of_le_of_lt hl9 (by decide)); clear hl9; walk_at "m_df")))
local macro_rules | `(tactic| walk_at "exec Assign") => `(tactic| ((with_reducible show wpAny _ _ (exec (Stmt.Assign [PySem.Expr.Name _ _] (PySem.Expr.Call (PySem.Expr.Name _ _) [_, _, _] [] _) _) _) _ _ _); (fail_if_success (with_reducible rename (_ * _ = (_ : Int)) => zz9)); refine Stop.go ?_))
local macro_rules | `(tactic| walk_at "call ref") => `(tactic| ((with_reducible show wpAny _ _ (call (Value.ref 490) _) _ _ _); (with_reducible rename Fr _ _ _ _ => Fr9); (with_reducible rename News _ _ _ _ => Nw9); (with_reducible rename Gr _ _ _ _ _ _ => G9); k_dflt (k_dflt (refine' mat_ctr G9 (val_now ‹_› Nw9) ?hr ?hi ?hn ?hdl ?hne ?ha ?hb ?hN ?h1 ?h9 ?hf _ _ _ _ _ _ _ rfl (stays_now ‹_› Fr9) (by walk_at "m_room") (by walk_at "m_room") ?_; (case hr => k_mem); (case hi => assumption); (case hn => omega); (case hdl => k_mem); (case hne => k_ne); (case hN => assumption); (case ha => omega); (case hb => omega); (case h1 => assumption); (case h9 => assumption); (case hf => omega); k_whole); intro rr9 hh9 tk9 kp9 ps9; obtain ⟨tl9, x9, kd9, im9, d9, y9, o9, e9, hf9, M9, its9, xs9, n9, g9, hi9, hl9⟩ := ps9; subst e9; (have U9 := upd_at Fr9 Nw9 kp9 g9 (by k_upd)); obtain ⟨F', N'⟩ := U9; (have N9' := news_app Fr9 hf9 N'); (have hk9 := apart_of kp9 Nw9 (by first | exact List.Mem.head _ | exact List.Mem.tail _ (List.Mem.head _) | exact List.Mem.tail _ (List.Mem.tail _ (List.Mem.head _))) hf9); clear N'; walk_at "m_tuck"; walk_at "m_df")))
local macro_rules | `(tactic| walk_at "exec If") => `(tactic| ((with_reducible show wpAny _ _ (exec (Stmt.If (PySem.Expr.Compare (PySem.Expr.Name _ _) _ _ _) _ _ _) _) _ _ _); walk_at "s_nc"; refine Stop.go ?_))
local macro_rules | `(tactic| walk_at "eval ListComp") => `(tactic| refine Stop.go ?_)
local macro_rules | `(tactic| walk_at "exec Assign") => `(tactic| ((with_reducible show wpAny _ _ (exec (Stmt.Assign [PySem.Expr.Name _ _] (PySem.Expr.IfExp _ _ _ _) _) _) _ _ _); walk_at "s_nc"; refine Stop.go ?_))
local macro_rules | `(tactic| walk_at "pyIter ref") => `(tactic| refine Stop.go ?_)
local macro_rules | `(tactic| walk_at "exec For Tuple List cons nil") => `(tactic| refine Stop.go ?_)
local macro_rules | `(tactic| walk_at "call ref") => `(tactic| ((first | (with_reducible show wpAny _ _ (call (Value.ref 395) _) _ _ _) | (with_reducible show wpAny _ _ (call (Value.ref 402) _) _ _ _) | (with_reducible show wpAny _ _ (call (Value.ref 466) _) _ _ _)); (with_reducible rename Fr _ _ _ _ => Fr9); (with_reducible rename News _ _ _ _ => Nw9); (with_reducible rename ToldAt _ _ _ _ _ _ _ => Ta9); (with_reducible rename Mat _ _ _ _ _ _ _ _ _ _ => Mt9); (with_reducible rename HeadV _ _ _ _ => Hv9); (with_reducible rename Gr _ _ _ _ _ _ => G9); k_dflt (k_dflt ((first | (refine' told_rule (fun V9 => Mat.neg Mt9 G9 V9 ‹_› ‹_› Hv9 _) ?st Fr9 Nw9 Ta9 ?s0 ?sb ?r1 ?r2 ?_) | (refine' told_rule (fun V9 => Mat.pos Mt9 G9 V9 ‹_› ‹_› Hv9 _) ?st Fr9 Nw9 Ta9 ?s0 ?sb ?r1 ?r2 ?_) | (refine' told_rule (fun V9 => Mat.inv Mt9 G9 V9 ‹_› ‹_› ‹_› ‹_› ‹_› Hv9) ?st Fr9 Nw9 Ta9 ?s0 ?sb ?r1 ?r2 ?_)); walk_at "m_told"); intro z9 B9 h9 tk9 F9 N9 T9; clear Fr9 Nw9 Ta9; walk_at "m_df")))
local macro_rules | `(tactic| walk_at "exec For Name List cons nil") => `(tactic| ((fail_if_success (with_reducible rename ToldAt _ _ _ _ _ _ _ => zz9)); refine Stop.go ?_))
set_option maxHeartbeats 4000000 in
theorem law_ctr (G : Gr w loose mean mg mb H₀) {sc : Addr} {vs : List Value} {xs : List Int} (hs : H₀.IsList sc vs.toArray) (hi : IntsAre vs xs) (hn : vs.length ≤ 63) :
    Ctr w H₀ 495 [.ref sc] 40 500 H [] (fun _ r => ∃ t, t = true ∧ r = .bool t) := by
  intro dp un fr gd s Q E eH st hdp hun hret
  subst eH
  have hvE : Val H₀ s.heap _ := (Val.nil : Val H₀ s.heap [])
  walk_at "m_fill"
  refine wpAny_call ?_
  k_dflt (refine' enterC (binds := [(Str.ofString "script", .ref sc)]) G st _ hvE ?k6 ?k7 ?k8 ?k9 ?kB ?kD ?_ ?c2 ?c3 ?c4; walk_at "m_restC")
  intro g L h0 tk0 cells F N Y X T stg S l1
  refine hideQ (Q := Q) (fun _ _ x => x) ?_
  intro Q9 hQ9
  replace hret := hideR hQ9 hret
  clear hQ9
  show (let e9 := envOfC _ _ _ _ _; wpAny _ (Around.deeper _ e9) (execs _ e9) _ _ _)
  intro e9
  (try k_lt l1)
  k_cells Y
  (try simp only [List.cons_append, List.nil_append] at N)
  (try dsimp only)
  (try k_fold)
  k_steps
  unfold Stop
  rename_i o1 d1 hR tkR kpR r itsR ysR nR fR gR hiR er hlR hR' oR dR hA tkA kpA iA tA itsA xsA nA gA hiA hlA k1 ta b1 c1 hB tkB kpB iB tB itsB xsB nB gB hiB hlB k2 tb b2 c2 dl hC lC hD _ t1 t2 hE FE NE
  have hm := mul_bound (a := 1 + k1) (b := 1 + k2) (by omega) (by omega)
  obtain ⟨hm1, hm9⟩ := hm
  simp only [Int.toNat_zero, Int.toNat_one, List.getD_cons_zero, List.getD_cons_succ] at FE
  generalize bindL _ _ _ = m0 at FE
  have ha : 1 ≤ 1 + k1 ∧ 1 + k1 ≤ 3 := by omega
  have hb : 1 ≤ 1 + k2 ∧ 1 + k2 ≤ 3 := by omega
  generalize 1 + k1 = a at *
  generalize 1 + k2 = b at *
  obtain ⟨N, hN⟩ : ∃ N, a * b = N := ⟨_, rfl⟩
  rw [hN] at hm1 hm9 FE
  clear kpR kpA kpB gR gA gB b1 c1 b2 c2 fR hiR hlR hiA hlA d1 k1 k2 hR' hR o1 itsR ysR hA
  k_steps
  unfold Stop
  rename_i hU tkU kpU tu x ku iu du yu ou hfu MU itsU xsU nU gU hiU hlU hku hV tkV hW tkW kpW iW tW itsW xsW nW gW hiW hlW k tk' k0 k3 hX FX NX
  obtain ⟨Vu, hVu⟩ := MU.head
  clear kpU hfu gU hiU hlU kpW gW hiB hlB
  refine cut_v FX (fun xv nx => ∃ l, nx = (dl, listOf #[Value.int a (tkA + 1 + 1), Value.int b (tkB + 1 + 1)] 0) :: l ∧ (∀ p ∈ tu, p ∈ l) ∧ Ops w l x xv a b N ou Vu) ?_ ?_
  · rcases (show k = 0 ∨ (k = 1 ∨ k = 2) by omega) with rfl | hk
    · k_steps
      rename_i tv xv kv iv dv yv ov hfv MV itsv xsv nv gv hiv hlv hkv hv' FV NV
      obtain ⟨Vv, hVv⟩ := MV.head
      have su : ∀ p ∈ tu, p ∈ tv ++ tu := fun p hp => List.mem_append_right _ hp
      have sv : ∀ p ∈ tv, p ∈ tv ++ tu := fun p hp => List.mem_append_left _ hp
      (try dsimp only)
      refine' Cut.fin FV (news_sub (l' := (dl, listOf #[Value.int a (tkA + 1 + 1), Value.int b (tkB + 1 + 1)] 0) :: (tv ++ tu)) NV (faC (.head _) (fun p hp => .tail _ (.tail _ (.tail _ hp))))) ?_
      refine ⟨xv, fun z _ => rfl, _, rfl, su, ov, Vv, rowV a b Vv, ?_, ?_⟩
      · exact two_mats (MU.mono su) (MV.mono sv) hN hm9 (hVu.mono su) (hVv.mono sv)
      · exact two_mats (MV.mono sv) (MU.mono su) hN hm9 (hVv.mono sv) (hVu.mono su)
    · k_steps
      unfold Stop
      rename News _ _ _ _ => NY
      rename Fr _ _ _ _ => FY
      refine cut_int FY NY (Str.ofString "size") (fun n => n = N ∨ n = 1) ?_ ?_
      · rcases hk with rfl | rfl
        · k_steps
          rename Fr _ _ _ _ => FQ
          rename News _ _ _ _ => NQ
          (try dsimp only at FQ NQ ⊢)
          refine' Cut.fin FQ NQ ?_
          exact ⟨_, _, rfl, rfl, .inl rfl⟩
        · k_steps
          rename Fr _ _ _ _ => FQ
          rename News _ _ _ _ => NQ
          (try dsimp only at FQ NQ ⊢)
          refine' Cut.fin FQ NQ ?_
          exact ⟨_, _, rfl, rfl, .inr rfl⟩
      · intro n tkn hZ tkZ FZ NZ hn'
        clear FY NY
        have hn1 : 1 ≤ n ∧ n ≤ 9 := by omega
        k_steps
        unfold Stop
        walk_at "m_comp"
        k_steps
        unfold Stop
        rename IsRange _ _ _ _ _ _ _ _ => R9
        rename Fr _ _ _ _ => F9
        rename News _ _ _ _ => N9
        refine LCg.CompSrc.range (n := Int.toNat _) (by rfl) F9 N9 R9 (range_small _ (ar_a ‹_› rfl) (ar_b ‹_›)) (range_size _ (ar_b ‹_›)) (by rw [PySem.sizeLine_eq]; exact ar_nat (ar_a ‹_› rfl)) ?_
        intro g'
        clear R9
        refine comp_inv _ (fun i ys nx => ∃ (its : List Value) (xs : List Int) (n : Nat), nx = (dl, listOf #[Value.int a (tkA + 1 + 1), Value.int b (tkB + 1 + 1)] 0) :: (r, listOf its.toArray n) :: (L + 1, oR) :: tu ∧ IntsAre its xs ∧ its.length < 200 ∧ ys.length = i ∧ BitsAre ys) ?_ ?_ _ 0 [] _ (Nat.zero_add _) ⟨itsW, xsW, nW, rfl, hiW, hlW, rfl, [], .nil, fun _ h => nomatch h⟩
        · intro i ys nx v I oI C oC D m2 h tk E' hi' qz0
          first | (refine x1_1 (qz0) ?_; intro tv e9z; clear qz0; subst e9z) | obtain ⟨tv, rfl⟩ := qz0
          intro qz1
          first | (revert qz1; revert nx; refine y3_4 ?_; intro its2 xs2 n2 hi2 hl2 ez hz) | obtain ⟨its2, xs2, n2, rfl, hi2, hl2, ez, hz⟩ := qz1
          intro hC hx F2 N2 off ne
          have hnI : @Ne Nat I r := Ne.symm (off.mem (r, _) (by k_mem)).1
          have hnC : @Ne Nat C r := Ne.symm (off.mem (r, _) (by k_mem)).2.1
          have hnD : @Ne Nat D r := Ne.symm (off.mem (r, _) (by k_mem)).2.2
          clear F9 N9
          (try dsimp only)
          k_steps
          unfold Stop
          refine comp_end (by assumption) (by assumption) (by walk_at "m_csub") (by exact off) trivial ⟨_, _, _, rfl, by assumption, by assumption, by simp [ez], hz.snoc (by omega) (by omega)⟩
        · intro ys nx qz0
          first | (revert qz0; revert nx; refine y3_4 ?_; intro its2 xs2 n2 hi2 hl2 ez hz) | obtain ⟨its2, xs2, n2, rfl, hi2, hl2, ez, hz⟩ := qz0
          unfold LCg.FinE
          intro D h tk F2 N2 off
          have offh := Hid.mk off
          clear off F9 N9
          (try dsimp only)
          k_steps
          · unfold Stop
            walk_at "m_comp"
            k_steps
            unfold Stop
            rename IsRange _ _ _ _ _ _ _ _ => R9
            rename Fr _ _ _ _ => F9
            rename News _ _ _ _ => N9
            refine LCg.CompSrc.range (n := Int.toNat _) (by rfl) F9 N9 R9 (range_small _ (ar_a ‹_› rfl) (ar_b ‹_›)) (range_size _ (ar_b ‹_›)) (by rw [PySem.sizeLine_eq]; exact ar_nat (ar_a ‹_› rfl)) ?_
            intro g9
            clear R9
            refine comp_same IsStr trivial ?_ ?_
            · rintro i9 ys9 v9 I9 oI9 C9 oC9 D9 m9 h9 tk9 E9 hi9 ⟨tv9, ev9⟩ hC9 hx9 F8 N8 off9 ne9
              subst ev9
              clear F9 N9
              (try dsimp only)
              k_steps
              unfold Stop
              exact comp_end (by assumption) (by assumption) (by walk_at "m_csub") off9 trivial ⟨rfl, ⟨_, _, rfl⟩⟩
            · intro ys9 ez9 hz9
              unfold LCg.FinE
              intro D9 h9 tk9 F8 N8 off9
              have offh9 := Hid.mk off9
              clear off9 F9 N9
              (try dsimp only)
              k_steps
              rename_i xv dv s1 s2 s3 s4 s5 hP tkP lP1 lP2 hQ tkQ hS tkS kpS iS tS itS xsS nS gS hiS hlS kS tkkS bS cS neS tkW1 dd hW1 oW1 lodd hdW1 lW1 hW2 tkW2 z1 z2 z3 z4 xn dn u1 u2 u3 u4 u5 hX1 tkX1 lX1 lX2 hX2 oB hoB hY FB NB
              have su : ∀ p ∈ tu, p ∈ (xn, instObj 257 dn) :: (dn, vdict w u1 u2 u3 u4 u5 sC (tkW1 + 1) D9 .none) :: (D9, LCg.lst ys9) :: (dd, oB) :: (xv, instObj 257 dv) :: (dv, vdict w s1 s2 s3 s4 s5 sI tkZ D (.ref dd)) :: (D, LCg.lst ys) :: tu := fun p hp => .tail _ (.tail _ (.tail _ (.tail _ (.tail _ (.tail _ (.tail _ hp))))))
              obtain ⟨As, T1, T2⟩ := two_plain (l := (xn, instObj 257 dn) :: (dn, vdict w u1 u2 u3 u4 u5 sC (tkW1 + 1) D9 .none) :: (D9, LCg.lst ys9) :: (dd, oB) :: (xv, instObj 257 dv) :: (dv, vdict w s1 s2 s3 s4 s5 sI tkZ D (.ref dd)) :: (D, LCg.lst ys) :: tu) (its' := ys) (x' := xv) (av := .ref dd) (m := n) (MU.mono su) ⟨⟨dv, s1, s2, s3, s4, s5, _, D, _, by k_mem, by k_mem, by k_mem⟩, hz, .inr ⟨dd, xn, ys9, rfl, ⟨oB, by k_mem, hoB, lodd⟩, ⟨dn, u1, u2, u3, u4, u5, _, D9, _, by k_mem, by k_mem, by k_mem⟩, ar_hun ez9 (ar_c ‹_› rfl), hz9⟩⟩ hN hm9 hm1 (ar_len ez (And.left ‹_›)) hn' (hVu.mono su)
              (try dsimp only)
              refine' Cut.fin FB (news_sub (l' := (dl, listOf #[Value.int a (tkA + 1 + 1), Value.int b (tkB + 1 + 1)] 0) :: (xn, instObj 257 dn) :: (dn, vdict w u1 u2 u3 u4 u5 sC (tkW1 + 1) D9 .none) :: (D9, LCg.lst ys9) :: (dd, oB) :: (xv, instObj 257 dv) :: (dv, vdict w s1 s2 s3 s4 s5 sI tkZ D (.ref dd)) :: (D, LCg.lst ys) :: tu) NB (by
                repeat walk_at "m_fa"
                exact fun p hp => (by repeat (first | (with_reducible exact hp) | apply List.mem_cons_of_mem)))) ?_
              exact ⟨xv, (fun z hz => if_size hz), _, rfl, su, none, none, As, T1, T2⟩
          · rename_i xv dv s1 s2 s3 s4 s5 hP tkP lP1 lP2 hQ FQ NQ tkQ hS tkS kpS iS tS itS xsS nS gS hiS FS NS hlS kS tkkS bS cS neS
            have su : ∀ p ∈ tu, p ∈ (xv, instObj 257 dv) :: (dv, vdict w s1 s2 s3 s4 s5 sI tkZ D .none) :: (D, LCg.lst ys) :: tu := fun p hp => .tail _ (.tail _ (.tail _ hp))
            obtain ⟨As, T1, T2⟩ := two_plain (l := (xv, instObj 257 dv) :: (dv, vdict w s1 s2 s3 s4 s5 sI tkZ D .none) :: (D, LCg.lst ys) :: tu) (its' := ys) (x' := xv) (av := .none) (m := n) (MU.mono su) ⟨⟨dv, s1, s2, s3, s4, s5, _, D, _, .head _, .tail _ (.head _), .tail _ (.tail _ (.head _))⟩, hz, .inl rfl⟩ hN hm9 hm1 (ar_len ez (And.left ‹_›)) hn' (hVu.mono su)
            (try dsimp only)
            refine' Cut.fin FS (news_sub (l' := (dl, listOf #[Value.int a (tkA + 1 + 1), Value.int b (tkB + 1 + 1)] 0) :: (xv, instObj 257 dv) :: (dv, vdict w s1 s2 s3 s4 s5 sI tkZ D .none) :: (D, LCg.lst ys) :: tu) NS (by
              repeat walk_at "m_fa"
              exact fun p hp => (by repeat (first | (with_reducible exact hp) | apply List.mem_cons_of_mem)))) ?_
            exact ⟨xv, (fun z hz => if_size hz), _, rfl, su, none, none, As, T1, T2⟩
  · intro xv u7 h7 tk7 nx FS NS qz0
    first | (refine x1_3 (qz0) ?_; intro l e9z su ops; clear qz0; subst e9z) | obtain ⟨l, rfl, su, ops⟩ := qz0
    replace MU := MU.mono su
    replace hVu := hVu.mono su
    clear FX NX
    k_steps
    unfold Stop
    refine' For_turns (by assumption) ?_
    k_steps
    unfold Stop
    rename_i T1 hT1 lT1 T2 hT2 lT2 ax hax F9 N9 lax
    obtain ⟨o', V', As', t1, t2⟩ := ops
    refine pair_loop (its := [.ref T1, .ref T2]) [Str.ofString "one", Str.ofString "two", Str.ofString "held", Str.ofString "due", Str.ofString "side", Str.ofString "told"] rfl F9 N9 (fun v hv => by
      rcases List.mem_cons.mp hv with rfl | hv
      · exact ⟨_, rfl⟩
      · rw [List.mem_singleton.mp hv]; exact ⟨_, rfl⟩) ?_ ?_
    · rintro i v u I ot it h tk hv hnI F3 N3
      have sl : ∀ p ∈ l, p ∈ (T2, tupObj [.ref xv, .ref x]) :: (T1, tupObj [.ref x, .ref xv]) :: l := fun p hp => .tail _ (.tail _ hp)
      have op : ∃ Tu p q o1 o2 V1 V2 A1 A2, v = .ref Tu ∧ (Tu, tupObj [.ref p, .ref q]) ∈ (T2, tupObj [.ref xv, .ref x]) :: (T1, tupObj [.ref x, .ref xv]) :: l ∧ Two w ((T2, tupObj [.ref xv, .ref x]) :: (T1, tupObj [.ref x, .ref xv]) :: l) p q a b N o1 o2 V1 V2 A1 A2 := by
        match i, hv with
        | 0, hv => exact ⟨T1, x, xv, _, _, _, _, _, _, (Option.some.inj hv).symm, .tail _ (.head _), t1.mono sl⟩
        | 1, hv => exact ⟨T2, xv, x, _, _, _, _, _, _, (Option.some.inj hv).symm, .head _, t2.mono sl⟩
        | j + 2, hv => simp at hv
      first | (refine x9_3 (op) ?_; intro Tu p q o1 o2 V1 V2 A1 A2 e9z hT two; clear op; subst e9z) | obtain ⟨Tu, p, q, o1, o2, V1, V2, A1, A2, rfl, hT, two⟩ := op
      have N4 : News g L h ((Tu, tupObj [.ref p, .ref q]) :: (I, it) :: (ax, ot) :: (dl, listOf #[Value.int a (tkA + 1 + 1), Value.int b (tkB + 1 + 1)] 0) :: (T2, tupObj [.ref xv, .ref x]) :: (T1, tupObj [.ref x, .ref xv]) :: l) := news_sub N3 (by
        have e : ∀ r ∈ (T2, tupObj [.ref xv, .ref x]) :: (T1, tupObj [.ref x, .ref xv]) :: l, r ∈ (T2, tupObj [.ref xv, .ref x]) :: (T1, tupObj [.ref x, .ref xv]) :: (dl, listOf #[Value.int a (tkA + 1 + 1), Value.int b (tkB + 1 + 1)] 0) :: l := fun r hr => (List.mem_cons.mp hr).elim (fun e => e ▸ .head _) fun hr => (List.mem_cons.mp hr).elim (fun e => e ▸ .tail _ (.head _)) fun hr => .tail _ (.tail _ (.tail _ hr))
        exact faC (List.mem_append_left _ (e _ hT)) (faC (List.mem_append_right _ (.head _)) (faC (List.mem_append_right _ (.tail _ (.head _))) (faC (List.mem_append_left _ (.tail _ (.tail _ (.head _)))) (fun r hr => List.mem_append_left _ (e r hr))))))
      replace F3 : Fr g L h _ := F3
      clear N3 F9 N9 t1 t2
      show wpAny (model PG w) ((mkA dp un fr gd).deeper (lawEnv w L)) (assign (pairTarget w) (lawEnv w L) _) (fun _ s₂ => wpAny (model PG w) ((mkA dp un fr gd).deeper (lawEnv w L)) (execs (pairBody w) (lawEnv w L)) _ _ s₂) _ _
      refine pair_turn (by assumption) hdp hun stg X T two hN hm1 hm9 ha hb rfl F3 N4 ?_
      intro h' tk' m' hm' F' N'
      exact GrowPost.fin F' N' (faC (.tail _ (.tail _ (.tail _ (.head _)))) (faC (.tail _ (.tail _ (.tail _ (.tail _ (.head _))))) (faC (.tail _ (.tail _ (.head _))) (fun r hr => .tail _ (.tail _ (.tail _ (.tail _ (.tail _ hr)))))))) (faC (.head _) (faC (.tail _ (.head _)) (List.forall_mem_nil _))) hnI ⟨rfl, fun z hz => (hm' z hz).trans (if_neg (not_contains hz))⟩
    · rintro u h tk F3 N3
      obtain ⟨xsu, ou9⟩ := MU.opnd hN hm9 hVu
      have SU := ou9.src
      clear ou9 t1 t2 F9 N9
      k_steps
      unfold Stop
      rename_i Th qh0 qh1 Dh oh kvh tlh hh tkh Fh hdh loh hkh hvsh hvh hDh Nh hst F5 N5
      obtain ⟨B2, hB2⟩ : ∃ B2, B2 = (T2, tupObj [.ref xv, .ref x]) :: (T1, tupObj [.ref x, .ref xv]) :: (dl, listOf #[Value.int a (tkA + 1 + 1), Value.int b (tkB + 1 + 1)] 0) :: (Th, tupObj [qh0, qh1, .ref Dh]) :: (Dh, oh) :: (tlh ++ l) := ⟨_, rfl⟩
      have mth : (Th, tupObj [qh0, qh1, .ref Dh]) ∈ B2 := hB2 ▸ .tail _ (.tail _ (.tail _ (.head _)))
      have sub0 : ∀ p ∈ tlh ++ l, p ∈ B2 := fun p hp => hB2 ▸ .tail _ (.tail _ (.tail _ (.tail _ (.tail _ hp))))
      have subl : ∀ p ∈ l, p ∈ B2 := fun p hp => sub0 p (List.mem_append_right _ hp)
      have HV := hvh.mono fun p hp => sub0 p (List.mem_append_left _ hp)
      have DV := hDh.mono fun p hp => sub0 p (List.mem_append_left _ hp)
      have N6 : News g L hst B2 := hB2 ▸ N5
      have TA : ToldAt w B2 B2 a b Vu [] := ToldAt.nil
      clear hB2 sub0 N5 hvh hDh hvsh Nh Fh
      k_steps
      unfold Stop
      rename_i n1 hn1 ln1 z1 Bz1 hz1 tz1 qz1 ez1 n2 hn2 ln2 z2 Bz2 hz2 tz2 qz2 ez2 z3 Bz3 hz3 tz3 T4 lx hlx F12 N12 l12
      first | (refine x1_2 (T4) ?_; intro tl ht hs4; clear T4) | obtain ⟨tl, ht, hs4⟩ := T4
      have ht0 : Told w B2 a b Vu [.ref z1, .ref z2, .ref z3] tl := ht
      have nlx : ∀ p ∈ tl, @Ne Nat p.1 lx := fun p hp => Nat.ne_of_lt (l12 p (hs4 p (List.mem_append_left _ hp)))
      have N13 : News g L _ ((lx, listOf ([.ref z1, .ref z2, .ref z3] : List Value).toArray 0) :: (tl ++ B2)) := news_sub N12 (faC (.head _) (fun p hp => .tail _ (hs4 p hp)))
      replace F12 : Fr g L _ _ := F12
      clear N12 l12 ln1 ln2 ht hs4
      refine list_grow (its := [.ref z1, .ref z2, .ref z3]) [Str.ofString "told"] (fun i nx => ∃ tl', nx = tl' ++ B2 ∧ Told w B2 a b Vu (([.ref z1, .ref z2, .ref z3] : List Value).drop i) tl' ∧ ∀ p ∈ tl', @Ne Nat p.1 lx) rfl F12 N13 ⟨tl, rfl, ht0, nlx⟩ ?_ ?_
      · intro j v u2 I2 ot2 it2 nx2 h3 tk3 hv2 qz0
        first | (refine x1_3 (qz0) ?_; intro tl' e9z ht' hlx'; clear qz0; subst e9z) | obtain ⟨tl', rfl, ht', hlx'⟩ := qz0
        intro hn2 F3 N3
        obtain ⟨hj, ev⟩ := List.getElem?_eq_some_iff.mp hv2
        rw [List.drop_eq_getElem_cons hj, ev] at ht'
        cases ht' with
        | @cons z d od rest tl1 zs TO off1 off2 ht1 =>
          have neI : @Ne Nat I2 d := Ne.symm (hn2 (d, od) (List.mem_append_left _ (List.mem_append_left _ (.head _))))
          have neax : @Ne Nat lx d := Ne.symm (hlx' (d, od) (List.mem_append_left _ (.head _)))
          have N4 : News g L h3 ((I2, it2) :: (lx, ot2) :: (d, od) :: (rest ++ (tl1 ++ B2))) := news_unr N3
          replace F3 : Fr g L h3 _ := F3
          clear N3 N13 F12
          refine un_turn (by assumption) hdp hun stg X T SU subl mth HV DV TO off1 off2 neI neax rfl rfl rfl F3 N4 ?_
          intro h4 tk4 F4 N5
          exact GrowPost.fin F4 N5 (fun p hp => .tail _ (.tail _ hp)) (faC (.head _) (faC (.tail _ (.head _)) (List.forall_mem_nil _)))
            (fun p hp => hn2 p ((List.mem_append.mp hp).elim (fun hp => List.mem_append_left _ (List.mem_append_right _ hp)) (List.mem_append_right _)))
            ⟨⟨tl1, rfl, ht1, fun p hp => hlx' p (List.mem_append_right _ hp)⟩, by walk_at "m_names2"⟩
      · intro u3 nx3 h3 tk3 qz0
        first | (refine x1_3 (qz0) ?_; intro tl3 e9z zz2 zz3; clear qz0; subst e9z; clear zz2 zz3) | obtain ⟨tl3, rfl, -, -⟩ := qz0
        intro F13 N14
        k_steps
        (try dsimp only)
        exact hret _ _ _ (keep_now S hvE F13 N14 [] (fun p hp => nomatch hp)) ⟨true, rfl, rfl⟩
end
set_option maxHeartbeats 4000000 in
theorem law_holds : PySem.Challenge.rw_nz0491_01.Holds := Mine.hd (by
  k_fill
  intro w s₀ s₁ mg mb G Y fa o pm cd doc dV kV ho hd hcd hD hmg hg args vals as hpre hlay hrd hwl hlo
  have KX := kIn_of Y
  have X := (Ground.X G).1
  have V := (Ground.X G).2
  refine Ground.open G ?_
  intro T B D TE TW
  try (refine guard_noD D (by decide +kernel) ?_; clear D)
  have e1 := mg_of (n := Str.ofString "law") (v := .ref 495) KX (Top.g T) (by kernel_rfl)
  have e2 : mg (Str.ofString "law") = some (.ref fa) := hmg
  rw [e1] at e2
  obtain rfl : fa = 495 := by injection e2 with e2; injection e2 with e2; exact e2.symm
  clear hcd hD hmg e1 e2
  wrow_args hpre hlay hrd hwl hlo
  rename Heap.IsList _ _ _ => hL
  rename IntsAre _ _ => hI
  rename ¬ (_ < _) => hc
  have hlen := hI.length
  refine law_ctr (Gr.mk KX T) hL hI (by omega) _ _ _ _ s₁ _ _ rfl (fun _ _ e => e) (by decide) (by decide) ?_
  intro r h' tk' kp qz0
  first | (refine x1_2 (qz0) ?_; intro t e1z e2z; clear qz0; subst e1z; subst e2z) | obtain ⟨t, rfl, rfl⟩ := qz0
  refine GoodW.toG ?_
  have kp' : ∀ b o, s₁.heap.get? b = some o → h'.get? b = some o := fun b o e => kp b o (by simp) e
  exact ⟨.inl ⟨.bool true, .bool true, [], rfl, fun _ => rfl, .bool true, (by first | (with_unfolding_all rfl) | (exact postW_of (by rfl) (by rfl) (by rfl)) | (exact postW_of (by rfl) (by rfl)) | (simp [PySem.Challenge.rw_nz0491_01])), fun _ => ⟨List.nodup_nil, fun _ h => nomatch h⟩⟩, kp', rfl, hg⟩)
end Mine
theorem PySem.Challenge.cw_nz0491_01_holds : PySem.Challenge.rw_nz0491_01.Holds :=
  Mine.law_holds
