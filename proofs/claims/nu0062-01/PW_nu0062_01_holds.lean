import PyProof.Rows.All
import Wide.All
import OpenK.AllK
import Wide.FinOn
import PySem.Challenge.RW_nu0062_01
open PySem PySem.W PySem.Calls PyProof.Rows
set_option Elab.async false
set_option compiler.extract_closed false
set_option hygiene false
set_option maxRecDepth 100000
set_option maxHeartbeats 8000000
set_option linter.unusedVariables false
set_option linter.unusedSectionVars false
section
namespace Mine
/-- a word with a twin of its own -/
def held : Str := Str.ofString "held"
theorem held_eq : held = held := rfl
end Mine
name_quick tw6980452841517184909 for Mine.held by Mine.held_eq
name_quick tw2244074263212557396 for Mine.held by Mine.held_eq
name_quick tw10028210170444487592 for Mine.held by Mine.held_eq
name_quick tw3703062986615058954 for Mine.held by Mine.held_eq
name_quick tw12869064799731924824 for Mine.held by Mine.held_eq
name_quick tw5207032806999768471 for Mine.held by Mine.held_eq
name_quick tw8075568018651887793 for Mine.held by Mine.held_eq
name_quick tw2711585505577850959 for Mine.held by Mine.held_eq
name_quick tw8620020772036689432 for Mine.held by Mine.held_eq
name_quick tw7232422423428716515 for Mine.held by Mine.held_eq
name_quick tw12835720964997663042 for Mine.held by Mine.held_eq
name_quick tw13987355940573415152 for Mine.held by Mine.held_eq
name_quick tw6004533443673955352 for Mine.held by Mine.held_eq
name_quick tw17517737089405305841 for Mine.held by Mine.held_eq
name_quick tw9674257727999782656 for Mine.held by Mine.held_eq
name_quick tw7009043117176579089 for Mine.held by Mine.held_eq
name_quick tw219737044198020058 for Mine.held by Mine.held_eq
name_quick tw9011979029575296479 for Mine.held by Mine.held_eq
name_quick tw9787396351842916947 for Mine.held by Mine.held_eq
name_quick tw7250012664060256230 for Mine.held by Mine.held_eq
name_quick tw43969757491396457 for Mine.held by Mine.held_eq
name_quick tw1291980286583624508 for Mine.held by Mine.held_eq
name_quick tw1258717718454355964 for Mine.held by Mine.held_eq
name_quick tw15560500314895047343 for Mine.held by Mine.held_eq
name_quick tw282004115355043989 for Mine.held by Mine.held_eq
name_quick tw17244072584429378644 for Mine.held by Mine.held_eq
name_quick tw15079194523842364033 for Mine.held by Mine.held_eq
name_quick tw10379131730601215995 for Mine.held by Mine.held_eq
name_quick tw3093977132361051618 for Mine.held by Mine.held_eq
name_quick tw4172830789200971933 for Mine.held by Mine.held_eq
name_quick tw7275051467321613617 for Mine.held by Mine.held_eq
name_quick tw17846936440860909165 for Mine.held by Mine.held_eq
name_quick tw973662469405803806 for Mine.held by Mine.held_eq
name_quick tw12233582284571471492 for Mine.held by Mine.held_eq
name_quick tw17352973434858128600 for Mine.held by Mine.held_eq
name_quick tw17730448691065144110 for Mine.held by Mine.held_eq
name_quick tw6135381517318000843 for Mine.held by Mine.held_eq
name_quick tw10015664371746657536 for Mine.held by Mine.held_eq
name_quick tw1829445100760108279 for Mine.held by Mine.held_eq
name_quick tw1184552218554016812 for Mine.held by Mine.held_eq
name_quick tw9376109419431680627 for Mine.held by Mine.held_eq
name_quick tw189603312586018693 for Mine.held by Mine.held_eq
name_quick tw3766158894648301139 for Mine.held by Mine.held_eq
name_quick tw2736616831223182526 for Mine.held by Mine.held_eq
name_quick tw1355338860687761863 for Mine.held by Mine.held_eq
name_quick tw757081541053455785 for Mine.held by Mine.held_eq
name_quick tw682011567655089306 for Mine.held by Mine.held_eq
name_quick tw16413264400604254196 for Mine.held by Mine.held_eq
name_quick tw13471461260053382970 for Mine.held by Mine.held_eq
name_quick tw11306939235166856333 for Mine.held by Mine.held_eq
name_quick tw4011157648589011858 for Mine.held by Mine.held_eq
name_quick tw12268644228514654432 for Mine.held by Mine.held_eq
name_quick tw13526986893379352335 for Mine.held by Mine.held_eq
name_quick tw460243522976405022 for Mine.held by Mine.held_eq
name_quick tw4407734736301137906 for Mine.held by Mine.held_eq
name_quick tw5978237884098788730 for Mine.held by Mine.held_eq
name_quick tw704327219915372674 for Mine.held by Mine.held_eq
name_quick tw9787463984185863102 for Mine.held by Mine.held_eq
name_quick tw6144853644547557980 for Mine.held by Mine.held_eq
name_quick tw18350330562280901221 for Mine.held by Mine.held_eq
name_quick tw10010936943081839664 for Mine.held by Mine.held_eq
name_quick tw3315324234476444515 for Mine.held by Mine.held_eq
name_quick tw12821735335276811757 for Mine.held by Mine.held_eq
name_quick tw14896874001708588922 for Mine.held by Mine.held_eq
name_quick tw9759809726879904816 for Mine.held by Mine.held_eq
name_quick tw5732905514179830355 for Mine.held by Mine.held_eq
name_quick tw607167704815816724 for Mine.held by Mine.held_eq
name_quick tw14311459727803291754 for Mine.held by Mine.held_eq
name_quick tw13607416678640721797 for Mine.held by Mine.held_eq
name_quick tw11277716924127702174 for Mine.held by Mine.held_eq
name_quick tw13215998728584607739 for Mine.held by Mine.held_eq
name_quick tw2968979199505139716 for Mine.held by Mine.held_eq
name_quick tw16741492637210864865 for Mine.held by Mine.held_eq
name_quick tw9285146279643344392 for Mine.held by Mine.held_eq
name_quick tw4278798014809849964 for Mine.held by Mine.held_eq
name_quick tw11130039905162102590 for Mine.held by Mine.held_eq
name_quick tw18101931140130867144 for Mine.held by Mine.held_eq
name_quick tw10073347824450446311 for Mine.held by Mine.held_eq
name_quick tw15007238320947547705 for Mine.held by Mine.held_eq
name_quick tw7585139358526817783 for Mine.held by Mine.held_eq
name_quick tw15168306246750427876 for Mine.held by Mine.held_eq
name_quick tw1617757218408452269 for Mine.held by Mine.held_eq
name_quick tw15560853006256673968 for Mine.held by Mine.held_eq
name_quick tw951843321253372498 for Mine.held by Mine.held_eq
name_quick tw14386061602966655976 for Mine.held by Mine.held_eq
name_quick tw13915792640404377917 for Mine.held by Mine.held_eq
name_quick tw17101871299007795629 for Mine.held by Mine.held_eq
name_quick tw16643379632663270332 for Mine.held by Mine.held_eq
name_quick tw13789449189825218787 for Mine.held by Mine.held_eq
name_quick tw16966814322356759819 for Mine.held by Mine.held_eq
name_quick tw4658958612460137192 for Mine.held by Mine.held_eq
name_quick tw8708707556590381134 for Mine.held by Mine.held_eq
name_quick tw6587116730350146372 for Mine.held by Mine.held_eq
name_quick tw16494616584097029746 for Mine.held by Mine.held_eq
name_quick tw7299951869573292228 for Mine.held by Mine.held_eq
name_quick tw17888162413812561239 for Mine.held by Mine.held_eq
name_quick tw14537914154153760125 for Mine.held by Mine.held_eq
name_quick tw4275521005467322725 for Mine.held by Mine.held_eq
name_quick tw5882768191206486792 for Mine.held by Mine.held_eq
name_quick tw14108194823987119177 for Mine.held by Mine.held_eq
name_quick tw3577408171920636059 for Mine.held by Mine.held_eq
name_quick tw912392155897948271 for Mine.held by Mine.held_eq
name_quick tw17164873540382356111 for Mine.held by Mine.held_eq
name_quick tw8303831635834835207 for Mine.held by Mine.held_eq
name_quick tw18260038339965228139 for Mine.held by Mine.held_eq
name_quick tw8902219603052485911 for Mine.held by Mine.held_eq
name_quick tw16180582048198870337 for Mine.held by Mine.held_eq
name_quick tw1320183511955256522 for Mine.held by Mine.held_eq
name_quick tw15806122291839087668 for Mine.held by Mine.held_eq
name_quick tw9979284746773624096 for Mine.held by Mine.held_eq
name_quick tw14126943448341045398 for Mine.held by Mine.held_eq
name_quick tw6589095468515690095 for Mine.held by Mine.held_eq
name_quick tw11270796479367742343 for Mine.held by Mine.held_eq
name_quick tw3820604794100220378 for Mine.held by Mine.held_eq
name_quick tw10948738476641704880 for Mine.held by Mine.held_eq
name_quick tw17975652961387846372 for Mine.held by Mine.held_eq
name_quick tw8032284361305108907 for Mine.held by Mine.held_eq
name_quick tw15278061642289888581 for Mine.held by Mine.held_eq
name_quick tw3698559305507148144 for Mine.held by Mine.held_eq
name_quick tw17274371674624000324 for Mine.held by Mine.held_eq
name_quick tw4527066259768149269 for Mine.held by Mine.held_eq
name_quick tw2413185636571951891 for Mine.held by Mine.held_eq
name_quick tw1055568401681811165 for Mine.held by Mine.held_eq
name_quick tw11853533878840232495 for Mine.held by Mine.held_eq
name_quick tw12825359941727978080 for Mine.held by Mine.held_eq
name_quick tw3362959441861295915 for Mine.held by Mine.held_eq
name_quick tw1370275717833778536 for Mine.held by Mine.held_eq
name_quick tw6123830517359053097 for Mine.held by Mine.held_eq
name_quick tw8579058602437062094 for Mine.held by Mine.held_eq
name_quick tw12393455550290869266 for Mine.held by Mine.held_eq
name_quick tw5068434257544371817 for Mine.held by Mine.held_eq
name_quick tw16406328271908756883 for Mine.held by Mine.held_eq
name_quick tw17111948838632640456 for Mine.held by Mine.held_eq
name_quick tw4319705520415482375 for Mine.held by Mine.held_eq
name_quick tw16817318245366136608 for Mine.held by Mine.held_eq
name_quick tw16548257151911338427 for Mine.held by Mine.held_eq
name_quick tw17552769576498331613 for Mine.held by Mine.held_eq
name_quick tw1735497430108182060 for Mine.held by Mine.held_eq
name_quick tw16947794391021106201 for Mine.held by Mine.held_eq
name_quick tw6711915476519705758 for Mine.held by Mine.held_eq
name_quick tw4978915544186085027 for Mine.held by Mine.held_eq
name_quick tw15900120412870309639 for Mine.held by Mine.held_eq
name_quick tw10007627690174824804 for Mine.held by Mine.held_eq
name_quick tw4292500188555128830 for Mine.held by Mine.held_eq
name_quick tw1749818173716722547 for Mine.held by Mine.held_eq
name_quick tw5823794197072137003 for Mine.held by Mine.held_eq
name_quick tw2315820567201803617 for Mine.held by Mine.held_eq
name_quick tw16531745337717519161 for Mine.held by Mine.held_eq
name_quick tw14884601019740666482 for Mine.held by Mine.held_eq
name_quick tw7496433998918960881 for Mine.held by Mine.held_eq
name_quick tw17069979004554194336 for Mine.held by Mine.held_eq
name_quick tw15902184279288820625 for Mine.held by Mine.held_eq
name_quick tw11894967455096443194 for Mine.held by Mine.held_eq
name_quick tw13912434898499826684 for Mine.held by Mine.held_eq
name_quick tw14834023430324568649 for Mine.held by Mine.held_eq
name_quick tw13016732220969518872 for Mine.held by Mine.held_eq
name_quick tw5076957145309523181 for Mine.held by Mine.held_eq
name_quick tw17394056326795013819 for Mine.held by Mine.held_eq
name_quick tw15263041282635125899 for Mine.held by Mine.held_eq
name_quick tw14778209649434054790 for Mine.held by Mine.held_eq
name_quick tw12659028871203227004 for Mine.held by Mine.held_eq
name_quick tw9931943479562821362 for Mine.held by Mine.held_eq
name_quick tw2905824091091238844 for Mine.held by Mine.held_eq
name_quick tw136631920214876835 for Mine.held by Mine.held_eq
name_quick tw2378363196638174374 for Mine.held by Mine.held_eq
name_quick tw5721027456603625697 for Mine.held by Mine.held_eq
name_quick tw13317431791736044220 for Mine.held by Mine.held_eq
name_quick tw6122645084068987007 for Mine.held by Mine.held_eq
name_quick tw15562837088269578035 for Mine.held by Mine.held_eq
name_quick tw1537898542681612871 for Mine.held by Mine.held_eq
name_quick tw14209830616999942402 for Mine.held by Mine.held_eq
name_quick tw15880737140895825463 for Mine.held by Mine.held_eq
name_quick tw14714103240675001986 for Mine.held by Mine.held_eq
name_quick tw1041845030581493396 for Mine.held by Mine.held_eq
name_quick tw2422670821966735624 for Mine.held by Mine.held_eq
name_quick tw8860024209350480642 for Mine.held by Mine.held_eq
name_quick tw8719427161674164953 for Mine.held by Mine.held_eq
name_quick tw7581816359482902497 for Mine.held by Mine.held_eq
name_quick tw9594665118957945026 for Mine.held by Mine.held_eq
name_quick tw3778451253796500701 for Mine.held by Mine.held_eq
name_quick tw7397068168572129948 for Mine.held by Mine.held_eq
name_quick tw17476080006546285661 for Mine.held by Mine.held_eq
name_quick tw15423634916342008072 for Mine.held by Mine.held_eq
name_quick tw16869277618539721502 for Mine.held by Mine.held_eq
name_quick tw11333186260410459676 for Mine.held by Mine.held_eq
name_quick tw9501820088010722379 for Mine.held by Mine.held_eq
name_quick tw3282434896037501709 for Mine.held by Mine.held_eq
name_quick tw2627984346626558326 for Mine.held by Mine.held_eq
name_quick tw16752143609539240740 for Mine.held by Mine.held_eq
name_quick tw183835017167291270 for Mine.held by Mine.held_eq
name_quick tw7198390536060210744 for Mine.held by Mine.held_eq
name_quick tw4075660801711882420 for Mine.held by Mine.held_eq
name_quick tw5565278806992967083 for Mine.held by Mine.held_eq
name_quick tw11519604305632133818 for Mine.held by Mine.held_eq
name_quick tw15823609455315575823 for Mine.held by Mine.held_eq
name_quick tw12898947447245864913 for Mine.held by Mine.held_eq
name_quick tw6426273055680023932 for Mine.held by Mine.held_eq
name_quick tw2460228577881660442 for Mine.held by Mine.held_eq
name_quick tw5189142188285759775 for Mine.held by Mine.held_eq
name_quick tw16350708796919097252 for Mine.held by Mine.held_eq
name_quick tw724751600484774222 for Mine.held by Mine.held_eq
name_quick tw2283851925072248500 for Mine.held by Mine.held_eq
name_quick tw17954471519018878134 for Mine.held by Mine.held_eq
name_quick tw4302124980754421698 for Mine.held by Mine.held_eq
name_quick tw11588390666370768167 for Mine.held by Mine.held_eq
name_quick tw6789855027759293466 for Mine.held by Mine.held_eq
name_quick tw9458956999447867950 for Mine.held by Mine.held_eq
name_quick tw5529568453561195837 for Mine.held by Mine.held_eq
name_quick tw667198328695590252 for Mine.held by Mine.held_eq
name_quick tw7094674258960923220 for Mine.held by Mine.held_eq
name_quick tw13314330512976039754 for Mine.held by Mine.held_eq
name_quick tw8796240567053077481 for Mine.held by Mine.held_eq
name_quick tw10919533547850550483 for Mine.held by Mine.held_eq
name_quick tw11817470609975844035 for Mine.held by Mine.held_eq
name_quick tw8450942572126056277 for Mine.held by Mine.held_eq
name_quick tw17000155066101142889 for Mine.held by Mine.held_eq
name_quick tw2354101950205528012 for Mine.held by Mine.held_eq
name_quick tw16439824349840649037 for Mine.held by Mine.held_eq
name_quick tw16339471991904476338 for Mine.held by Mine.held_eq
name_quick tw16593013826814733010 for Mine.held by Mine.held_eq
name_quick tw16374537267813192141 for Mine.held by Mine.held_eq
name_quick tw10887116778572429059 for Mine.held by Mine.held_eq
name_quick tw1419416864934026935 for Mine.held by Mine.held_eq
name_quick tw10323183001455561277 for Mine.held by Mine.held_eq
name_quick tw3424931102881643321 for Mine.held by Mine.held_eq
name_quick tw5349121933718820234 for Mine.held by Mine.held_eq
name_quick tw9136488742655976645 for Mine.held by Mine.held_eq
name_quick tw15919542637913265678 for Mine.held by Mine.held_eq
name_quick tw17532440430192770315 for Mine.held by Mine.held_eq
name_quick tw2670528217467546775 for Mine.held by Mine.held_eq
name_quick tw2478078296215019888 for Mine.held by Mine.held_eq
name_quick tw11964429278604863157 for Mine.held by Mine.held_eq
name_quick tw2611137233208623240 for Mine.held by Mine.held_eq
name_quick tw8206430501311747189 for Mine.held by Mine.held_eq
name_quick tw3105397867545767578 for Mine.held by Mine.held_eq
name_quick tw16296994325663420285 for Mine.held by Mine.held_eq
name_quick tw1402947280878808549 for Mine.held by Mine.held_eq
name_quick tw3976722010076183465 for Mine.held by Mine.held_eq
name_quick tw1258299570235058372 for Mine.held by Mine.held_eq
name_quick tw6722154040420286063 for Mine.held by Mine.held_eq
name_quick tw17988542015724977305 for Mine.held by Mine.held_eq
name_quick tw16846860572762119324 for Mine.held by Mine.held_eq
name_quick tw17672482021469178181 for Mine.held by Mine.held_eq
name_quick tw3972328310683599613 for Mine.held by Mine.held_eq
name_quick tw5396446701170858492 for Mine.held by Mine.held_eq
name_quick tw6679490504615227074 for Mine.held by Mine.held_eq
name_quick tw4936483359421988267 for Mine.held by Mine.held_eq
name_quick tw7392212959928792091 for Mine.held by Mine.held_eq
name_quick tw8693227569615203950 for Mine.held by Mine.held_eq
name_quick tw3442601649717412197 for Mine.held by Mine.held_eq
name_quick tw16981483081396284153 for Mine.held by Mine.held_eq
name_quick tw8753696776887207221 for Mine.held by Mine.held_eq
name_quick tw932993149863042379 for Mine.held by Mine.held_eq
name_quick tw3264259588550801142 for Mine.held by Mine.held_eq
name_quick tw11462045893675790159 for Mine.held by Mine.held_eq
name_quick tw18263319221461684349 for Mine.held by Mine.held_eq
name_quick tw6380047634161181297 for Mine.held by Mine.held_eq
name_quick tw14073706353221006472 for Mine.held by Mine.held_eq
name_quick tw11543547407058413889 for Mine.held by Mine.held_eq
name_quick tw1886563365779066154 for Mine.held by Mine.held_eq
name_quick tw11161088081135249708 for Mine.held by Mine.held_eq
name_quick tw1702518465993881591 for Mine.held by Mine.held_eq
name_quick tw4549333791460862111 for Mine.held by Mine.held_eq
name_quick tw6019396324639902685 for Mine.held by Mine.held_eq
name_quick tw2401699919119007470 for Mine.held by Mine.held_eq
name_quick tw8253183596043897158 for Mine.held by Mine.held_eq
name_quick tw6363645014702824404 for Mine.held by Mine.held_eq
name_quick tw9537544019596298400 for Mine.held by Mine.held_eq
name_quick tw14433975572909055671 for Mine.held by Mine.held_eq
name_quick tw14971970265804392439 for Mine.held by Mine.held_eq
name_quick tw17100903815162463580 for Mine.held by Mine.held_eq
name_quick tw15066959818950650227 for Mine.held by Mine.held_eq
name_quick tw14214133299417103183 for Mine.held by Mine.held_eq
name_quick tw4090926877573551719 for Mine.held by Mine.held_eq
name_quick tw12813236842856870187 for Mine.held by Mine.held_eq
name_quick tw1156252341971683116 for Mine.held by Mine.held_eq
name_quick tw9151444980202551346 for Mine.held by Mine.held_eq
name_quick tw313226197891681235 for Mine.held by Mine.held_eq
name_quick tw16018607276475445134 for Mine.held by Mine.held_eq
name_quick tw3152983702415266003 for Mine.held by Mine.held_eq
name_quick tw10942035263794033107 for Mine.held by Mine.held_eq
name_quick tw1706496860858754268 for Mine.held by Mine.held_eq
name_quick tw11108263761283441063 for Mine.held by Mine.held_eq
name_quick tw9396933662098498411 for Mine.held by Mine.held_eq
name_quick tw7269565832213808900 for Mine.held by Mine.held_eq
name_quick tw13776390136698705113 for Mine.held by Mine.held_eq
name_quick tw11625766737575182897 for Mine.held by Mine.held_eq
name_quick tw6550987210724342151 for Mine.held by Mine.held_eq
name_quick tw6434265647005701932 for Mine.held by Mine.held_eq
name_quick tw4921902886906138986 for Mine.held by Mine.held_eq
name_quick tw11445135464325071761 for Mine.held by Mine.held_eq
name_quick tw11788150170368784547 for Mine.held by Mine.held_eq
name_quick tw7098571738820278039 for Mine.held by Mine.held_eq
name_quick tw14305139224198610471 for Mine.held by Mine.held_eq
name_quick tw3209381107111851631 for Mine.held by Mine.held_eq
name_quick tw15221196565099060489 for Mine.held by Mine.held_eq
name_quick tw12945451867199242903 for Mine.held by Mine.held_eq
name_quick tw8098380416015320538 for Mine.held by Mine.held_eq
name_quick tw11790162104776037713 for Mine.held by Mine.held_eq
name_quick tw16874561944515371726 for Mine.held by Mine.held_eq
name_quick tw4525517667737911620 for Mine.held by Mine.held_eq
name_quick tw7401281599722004195 for Mine.held by Mine.held_eq
name_quick tw12224578244612797663 for Mine.held by Mine.held_eq
name_quick tw16697116713213952808 for Mine.held by Mine.held_eq
name_quick tw608726401823008365 for Mine.held by Mine.held_eq
name_quick tw6148621092414575339 for Mine.held by Mine.held_eq
name_quick tw5345256250457102556 for Mine.held by Mine.held_eq
name_quick tw5556206192530704276 for Mine.held by Mine.held_eq
name_quick tw5770868932273138760 for Mine.held by Mine.held_eq
name_quick tw5248340912204065574 for Mine.held by Mine.held_eq
name_quick tw1962928258387122110 for Mine.held by Mine.held_eq
name_quick tw16241802466949684156 for Mine.held by Mine.held_eq
name_quick tw9315938663221665524 for Mine.held by Mine.held_eq
name_quick tw10996506086634736982 for Mine.held by Mine.held_eq
name_quick tw6059929106960060952 for Mine.held by Mine.held_eq
name_quick tw1333364371103165705 for Mine.held by Mine.held_eq
name_quick tw1204117194425446250 for Mine.held by Mine.held_eq
name_quick tw9673203406766833760 for Mine.held by Mine.held_eq
name_quick tw6662432510661729299 for Mine.held by Mine.held_eq
name_quick tw12237943961548833269 for Mine.held by Mine.held_eq
name_quick tw2922074901204462755 for Mine.held by Mine.held_eq
name_quick tw15663404670287596823 for Mine.held by Mine.held_eq
name_quick tw8603108125212654177 for Mine.held by Mine.held_eq
name_quick tw11994158751524154303 for Mine.held by Mine.held_eq
name_quick tw17300597898927385350 for Mine.held by Mine.held_eq
name_quick tw13615603153576403970 for Mine.held by Mine.held_eq
name_quick tw1218959903707654005 for Mine.held by Mine.held_eq
name_quick tw7378761846476686904 for Mine.held by Mine.held_eq
name_quick tw11863081143760314161 for Mine.held by Mine.held_eq
name_quick tw8929175847862630378 for Mine.held by Mine.held_eq
name_quick tw7483462131439158144 for Mine.held by Mine.held_eq
name_quick tw7299303143086499733 for Mine.held by Mine.held_eq
name_quick tw16432479971616331241 for Mine.held by Mine.held_eq
name_quick tw7365555872484859036 for Mine.held by Mine.held_eq
name_quick tw16916688483869632129 for Mine.held by Mine.held_eq
name_quick tw17828083071136270317 for Mine.held by Mine.held_eq
name_quick tw8703263022893421829 for Mine.held by Mine.held_eq
name_quick tw8017206721242287953 for Mine.held by Mine.held_eq
name_quick tw6434138532213402376 for Mine.held by Mine.held_eq
name_quick tw9236875199018929784 for Mine.held by Mine.held_eq
name_quick tw3039592710220408265 for Mine.held by Mine.held_eq
name_quick tw14553827428707814869 for Mine.held by Mine.held_eq
name_quick tw1620339239838986703 for Mine.held by Mine.held_eq
name_quick tw2660918139993853925 for Mine.held by Mine.held_eq
name_quick tw558745408833754511 for Mine.held by Mine.held_eq
name_quick tw7581352650102555174 for Mine.held by Mine.held_eq
name_quick tw10833955939284561965 for Mine.held by Mine.held_eq
name_quick tw15323854079317868165 for Mine.held by Mine.held_eq
name_quick tw13141144453892091621 for Mine.held by Mine.held_eq
name_quick tw9948023125614773506 for Mine.held by Mine.held_eq
name_quick tw721709456127091705 for Mine.held by Mine.held_eq
name_quick tw3118938333895590913 for Mine.held by Mine.held_eq
name_quick tw11682084944484805031 for Mine.held by Mine.held_eq
name_quick tw14223099787259518943 for Mine.held by Mine.held_eq
name_quick tw17018628822417861297 for Mine.held by Mine.held_eq
name_quick tw15475462885187679331 for Mine.held by Mine.held_eq
name_quick tw7505897509792200422 for Mine.held by Mine.held_eq
name_quick tw3636048126100218174 for Mine.held by Mine.held_eq
name_quick tw5706481520468235054 for Mine.held by Mine.held_eq
name_quick tw8595292554425487202 for Mine.held by Mine.held_eq
name_quick tw11985326045990495214 for Mine.held by Mine.held_eq
name_quick tw12177639751122801600 for Mine.held by Mine.held_eq
name_quick tw5925582254088234700 for Mine.held by Mine.held_eq
name_quick tw11796506867022685745 for Mine.held by Mine.held_eq
name_quick tw6929956602132211858 for Mine.held by Mine.held_eq
name_quick tw16979880578912567463 for Mine.held by Mine.held_eq
name_quick tw13236226663087606529 for Mine.held by Mine.held_eq
name_quick tw12981051755390344553 for Mine.held by Mine.held_eq
name_quick tw17057272898397164401 for Mine.held by Mine.held_eq
name_quick tw7783732958741208154 for Mine.held by Mine.held_eq
name_quick tw12392613427281201732 for Mine.held by Mine.held_eq
name_quick tw392140993173905013 for Mine.held by Mine.held_eq
name_quick tw7504490480230193789 for Mine.held by Mine.held_eq
name_quick tw18056578402003937789 for Mine.held by Mine.held_eq
name_quick tw10029231156530900338 for Mine.held by Mine.held_eq
name_quick tw8119918657739134586 for Mine.held by Mine.held_eq
name_quick tw8901101332624060146 for Mine.held by Mine.held_eq
name_quick tw18416463498863911781 for Mine.held by Mine.held_eq
name_quick tw11636919720809706868 for Mine.held by Mine.held_eq
name_quick tw12371321757623732685 for Mine.held by Mine.held_eq
name_quick tw8047484207015712433 for Mine.held by Mine.held_eq
name_quick tw11892598404827812706 for Mine.held by Mine.held_eq
name_quick tw8537084889766193716 for Mine.held by Mine.held_eq
name_quick tw17497748084772794779 for Mine.held by Mine.held_eq
name_quick tw4071324889030633612 for Mine.held by Mine.held_eq
name_quick tw12726346659333912481 for Mine.held by Mine.held_eq
name_quick tw3131671291697673992 for Mine.held by Mine.held_eq
name_quick tw662354867322794072 for Mine.held by Mine.held_eq
name_quick tw15376083050721069600 for Mine.held by Mine.held_eq
name_quick tw15112985482279097393 for Mine.held by Mine.held_eq
name_quick tw12635297910168745909 for Mine.held by Mine.held_eq
name_quick tw18340240734955500558 for Mine.held by Mine.held_eq
name_quick tw2958062672499776758 for Mine.held by Mine.held_eq
name_quick tw13809362725867891129 for Mine.held by Mine.held_eq
name_quick tw13002492023102617099 for Mine.held by Mine.held_eq
name_quick tw1763209079605825380 for Mine.held by Mine.held_eq
name_quick tw8459811325457737761 for Mine.held by Mine.held_eq
name_quick tw13559156169165276386 for Mine.held by Mine.held_eq
name_quick tw6967401301877209104 for Mine.held by Mine.held_eq
name_quick tw12850107946570832962 for Mine.held by Mine.held_eq
name_quick tw4558998842232669794 for Mine.held by Mine.held_eq
name_quick tw7892128664451923741 for Mine.held by Mine.held_eq
name_quick tw2664551874359636763 for Mine.held by Mine.held_eq
name_quick tw1638017585896720355 for Mine.held by Mine.held_eq
name_quick tw8400853705098224536 for Mine.held by Mine.held_eq
name_quick tw4681523508651956083 for Mine.held by Mine.held_eq
name_quick tw18220123701641295943 for Mine.held by Mine.held_eq
name_quick tw9951705424602377420 for Mine.held by Mine.held_eq
name_quick tw4552823106982906706 for Mine.held by Mine.held_eq
name_quick tw17765544955259793912 for Mine.held by Mine.held_eq
name_quick tw11957962974430299695 for Mine.held by Mine.held_eq
name_quick tw2039238271031011813 for Mine.held by Mine.held_eq
name_quick tw13759679279233594173 for Mine.held by Mine.held_eq
name_quick tw10706342367453228570 for Mine.held by Mine.held_eq
name_quick tw6448080314894763839 for Mine.held by Mine.held_eq
name_quick tw15542503528162795033 for Mine.held by Mine.held_eq
name_quick tw12329403913580668285 for Mine.held by Mine.held_eq
name_quick tw11707433790658880453 for Mine.held by Mine.held_eq
name_quick tw9908251947323293946 for Mine.held by Mine.held_eq
name_quick tw5032809538720368765 for Mine.held by Mine.held_eq
name_quick tw5080723308164169839 for Mine.held by Mine.held_eq
name_quick tw18345786424863182364 for Mine.held by Mine.held_eq
name_quick tw505943868828395459 for Mine.held by Mine.held_eq
name_quick tw10670733350059645105 for Mine.held by Mine.held_eq
name_quick tw7276740287692124622 for Mine.held by Mine.held_eq
name_quick tw17520869792638436183 for Mine.held by Mine.held_eq
name_quick tw10314498396905981064 for Mine.held by Mine.held_eq
name_quick tw9626621113073979434 for Mine.held by Mine.held_eq
name_quick tw1092655722715705105 for Mine.held by Mine.held_eq
name_quick tw15766043655864335149 for Mine.held by Mine.held_eq
name_quick tw14224011070414065920 for Mine.held by Mine.held_eq
name_quick tw6213141578215901147 for Mine.held by Mine.held_eq
name_quick tw14210447440969649564 for Mine.held by Mine.held_eq
name_quick tw5701610774189311196 for Mine.held by Mine.held_eq
name_quick tw11317593695737139937 for Mine.held by Mine.held_eq
name_quick tw6817277305950994716 for Mine.held by Mine.held_eq
name_quick tw16349216596472256690 for Mine.held by Mine.held_eq
name_quick tw17774800907425398282 for Mine.held by Mine.held_eq
name_quick tw6090905460779295987 for Mine.held by Mine.held_eq
name_quick tw11420187438672877268 for Mine.held by Mine.held_eq
name_quick tw12866136484021002089 for Mine.held by Mine.held_eq
name_quick tw5111356299099525756 for Mine.held by Mine.held_eq
name_quick tw9821368406582625841 for Mine.held by Mine.held_eq
name_quick tw14112274594779413971 for Mine.held by Mine.held_eq
name_quick tw8642067239939848140 for Mine.held by Mine.held_eq
name_quick tw11939915149646268982 for Mine.held by Mine.held_eq
name_quick tw11013792430000457035 for Mine.held by Mine.held_eq
name_quick tw5518745428033880147 for Mine.held by Mine.held_eq
name_quick tw4748654258956052638 for Mine.held by Mine.held_eq
name_quick tw17537794083376710389 for Mine.held by Mine.held_eq
name_quick tw6683783046931543321 for Mine.held by Mine.held_eq
name_quick tw4797165386629745026 for Mine.held by Mine.held_eq
name_quick tw8727135674562949291 for Mine.held by Mine.held_eq
name_quick tw2599325451414397859 for Mine.held by Mine.held_eq
name_quick tw17434858337260393937 for Mine.held by Mine.held_eq
name_quick tw10057510723706494237 for Mine.held by Mine.held_eq
name_quick tw14979626087600564940 for Mine.held by Mine.held_eq
name_quick tw470574548607681690 for Mine.held by Mine.held_eq
name_quick tw2408619945344806742 for Mine.held by Mine.held_eq
name_quick tw11452132507678324671 for Mine.held by Mine.held_eq
name_quick tw3560238982266916124 for Mine.held by Mine.held_eq
name_quick tw8424611434330503625 for Mine.held by Mine.held_eq
name_quick tw6125931036764729998 for Mine.held by Mine.held_eq
name_quick tw13900631225919944168 for Mine.held by Mine.held_eq
name_quick tw14023627001141898710 for Mine.held by Mine.held_eq
name_quick tw9862997608875712007 for Mine.held by Mine.held_eq
name_quick tw8376441433122354887 for Mine.held by Mine.held_eq
name_quick tw15894407043143930727 for Mine.held by Mine.held_eq
name_quick tw18350638575300117064 for Mine.held by Mine.held_eq
name_quick tw12635813782599140982 for Mine.held by Mine.held_eq
name_quick tw4224760802259116069 for Mine.held by Mine.held_eq
name_quick tw11729385059970357855 for Mine.held by Mine.held_eq
name_quick tw13981391230805400906 for Mine.held by Mine.held_eq
name_quick tw10227693086864044499 for Mine.held by Mine.held_eq
name_quick tw14326252917377295143 for Mine.held by Mine.held_eq
name_quick tw6654550962395885724 for Mine.held by Mine.held_eq
name_quick tw6245536207120538393 for Mine.held by Mine.held_eq
name_quick tw16414604833108395602 for Mine.held by Mine.held_eq
name_quick tw3470799630455053000 for Mine.held by Mine.held_eq
name_quick tw16349804527192203551 for Mine.held by Mine.held_eq
name_quick tw7788680626742099145 for Mine.held by Mine.held_eq
name_quick tw5200128776193632040 for Mine.held by Mine.held_eq
name_quick tw12450158673883907302 for Mine.held by Mine.held_eq
name_quick tw1377046205977697930 for Mine.held by Mine.held_eq
name_quick tw9564595351457756722 for Mine.held by Mine.held_eq
name_quick tw7323676302269181137 for Mine.held by Mine.held_eq
name_quick tw9305782018832362445 for Mine.held by Mine.held_eq
name_quick tw387338674003428930 for Mine.held by Mine.held_eq
name_quick tw17000458434675057986 for Mine.held by Mine.held_eq
name_quick tw3880421473898291048 for Mine.held by Mine.held_eq
name_quick tw16792545251062261874 for Mine.held by Mine.held_eq
name_quick tw2719445374943340272 for Mine.held by Mine.held_eq
name_quick tw17024950926791866790 for Mine.held by Mine.held_eq
name_quick tw1772237422875290029 for Mine.held by Mine.held_eq
name_quick tw7650934615059315214 for Mine.held by Mine.held_eq
name_quick tw16049961110935095269 for Mine.held by Mine.held_eq
name_quick tw7802139600951554647 for Mine.held by Mine.held_eq
name_quick tw10500077913531017323 for Mine.held by Mine.held_eq
name_quick tw9529234661008812162 for Mine.held by Mine.held_eq
name_quick tw18211773271919218964 for Mine.held by Mine.held_eq
name_quick tw9467589175468403638 for Mine.held by Mine.held_eq
name_quick tw10470071008263537045 for Mine.held by Mine.held_eq
name_quick tw17863021456227041891 for Mine.held by Mine.held_eq
name_quick tw117213463901210413 for Mine.held by Mine.held_eq
name_quick tw15742981410569661332 for Mine.held by Mine.held_eq
name_quick tw14530364306720264245 for Mine.held by Mine.held_eq
name_quick tw5902227825499142635 for Mine.held by Mine.held_eq
name_quick tw16655555454665732581 for Mine.held by Mine.held_eq
name_quick tw8989982439271903415 for Mine.held by Mine.held_eq
name_quick tw3764465048917985505 for Mine.held by Mine.held_eq
name_quick tw17279654841073493023 for Mine.held by Mine.held_eq
name_quick tw9800571698397750058 for Mine.held by Mine.held_eq
name_quick tw11566699232636054958 for Mine.held by Mine.held_eq
name_quick tw10424941004445345732 for Mine.held by Mine.held_eq
name_quick tw16176465441171805009 for Mine.held by Mine.held_eq
name_quick tw13512673800721320934 for Mine.held by Mine.held_eq
namespace Mine
open_top hd for PySem.Challenge.rw_nu0062_01
end Mine
end
namespace Mine
theorem topOff : True := by
  w_top off
  trivial
theorem fillDummy (P : Params) (h : Heap) : (Mine.hd.heap_39 P).In h → PySem.Challenge.rw_nu0062_01.foot = PySem.Challenge.rw_nu0062_01.foot := by
  k_fill
  intro _
  rfl
end Mine
section
open PySem PySem.W PySem.Calls PyProof.Rows
namespace Mine

/-! ## the tree's data -/
structure RowD where
  kind : Str
  name : Str
  uri : Str
  loc : Str
  value : Str
  parent : Option Nat
  kids : List Nat
  atts : List Nat
  nss : List Nat
structure Plc where
  r : Addr
  d : Addr
  c : Addr
  a : Addr
  n : Addr
def Plc.all (p : Plc) : List Addr := [p.r, p.d, p.c, p.a, p.n]
structure TAd where
  t : Addr
  dt : Addr
  rl : Addr
  ps : List Plc
def TAd.all (ad : TAd) : List Addr := ad.t :: ad.dt :: ad.rl :: ad.ps.flatMap Plc.all

def natInts (l : List Nat) : List Int := l.map fun (n : Nat) => (n : Int)
def ParV (v : Value) : Option Nat → Prop
  | none => v = .none
  | some i => ∃ t, v = .int (i : Nat) t
def IntL (g : Addr → Option Obj) (a : Addr) (l : List Nat) : Prop := ∃ (vs : List Value) (n : Nat), g a = some (listOf vs.toArray n) ∧ IntsAre vs (natInts l)

structure Entries (es : List DictEntry) (R : RowD) (p : Plc) : Prop where
  kind : ∃ t, getL "kind" es = some (some (.str R.kind t))
  name : ∃ t, getL "name" es = some (some (.str R.name t))
  uri : ∃ t, getL "uri" es = some (some (.str R.uri t))
  loc : ∃ t, getL "local" es = some (some (.str R.loc t))
  value : ∃ t, getL "value" es = some (some (.str R.value t))
  parent : ∃ v, ParV v R.parent ∧ getL "parent" es = some (some v)
  kids : getL "children" es = some (some (.ref p.c))
  atts : getL "attributes" es = some (some (.ref p.a))
  nss : getL "namespaces" es = some (some (.ref p.n))
  len : es.length = 9

structure RowAt (g : Addr → Option Obj) (R : RowD) (p : Plc) : Prop where
  inst : g p.r = some (instObj 124 p.d)
  dict : ∃ es n, g p.d = some (dictOf es n) ∧ Entries es R p
  kids : IntL g p.c R.kids
  atts : IntL g p.a R.atts
  nss : IntL g p.n R.nss

structure TreeAt (g : Addr → Option Obj) (T : List RowD) (ad : TAd) : Prop where
  inst : g ad.t = some (instObj 313 ad.dt)
  dict : ∃ hs t n, g ad.dt = some (dictOf [⟨hs, .str "rows" t, .ref ad.rl⟩] n)
  rows : ∃ n, g ad.rl = some (listOf ((ad.ps.map fun p => Value.ref p.r)).toArray n)
  len : ad.ps.length = T.length
  row : ∀ (i : Nat) (R : RowD) (p : Plc), T[i]? = some R → ad.ps[i]? = some p → RowAt g R p
  nodup : ad.all.Nodup
  small : T.length ≤ 100
  lens : ∀ (i : Nat) (R : RowD), T[i]? = some R → R.kids.length ≤ 100 ∧ R.atts.length ≤ 100 ∧ R.nss.length ≤ 100

theorem IntL.congr {g g' : Addr → Option Obj} {a : Addr} {l : List Nat} (h : IntL g a l) (e : g' a = g a) : IntL g' a l := by
  obtain ⟨vs, n, h1, h2⟩ := h
  exact ⟨vs, n, e.trans h1, h2⟩
theorem RowAt.congr {g g' : Addr → Option Obj} {R : RowD} {p : Plc} (h : RowAt g R p) (e : ∀ a ∈ p.all, g' a = g a) : RowAt g' R p where
  inst := (e _ (by simp [Plc.all])).trans h.inst
  dict := by
    obtain ⟨es, n, h1, h2⟩ := h.dict
    exact ⟨es, n, (e _ (by simp [Plc.all])).trans h1, h2⟩
  kids := h.kids.congr (e _ (by simp [Plc.all]))
  atts := h.atts.congr (e _ (by simp [Plc.all]))
  nss := h.nss.congr (e _ (by simp [Plc.all]))
theorem TAd.mem_all {ad : TAd} {i : Nat} {p : Plc} (hp : ad.ps[i]? = some p) : ∀ a ∈ p.all, a ∈ ad.all := fun a ha => by
  refine .tail _ (.tail _ (.tail _ (List.mem_flatMap.mpr ⟨p, List.mem_of_getElem? hp, ha⟩)))
theorem TreeAt.congr {g g' : Addr → Option Obj} {T : List RowD} {ad : TAd} (h : TreeAt g T ad) (e : ∀ a ∈ ad.all, g' a = g a) : TreeAt g' T ad where
  inst := (e _ (.head _)).trans h.inst
  dict := by
    obtain ⟨hs, t, n, h1⟩ := h.dict
    exact ⟨hs, t, n, (e _ (.tail _ (.head _))).trans h1⟩
  rows := by
    obtain ⟨n, h1⟩ := h.rows
    exact ⟨n, (e _ (.tail _ (.tail _ (.head _)))).trans h1⟩
  len := h.len
  row := fun i R p h1 h2 => (h.row i R p h1 h2).congr fun a ha => e a (TAd.mem_all h2 a ha)
  nodup := h.nodup
  small := h.small
  lens := h.lens
theorem TreeAt.live {g : Addr → Option Obj} {T : List RowD} {ad : TAd} (h : TreeAt g T ad) : ∀ a ∈ ad.all, ∃ o, g a = some o := by
  intro a ha
  unfold TAd.all at ha
  rcases List.mem_cons.mp ha with rfl | ha
  · exact ⟨_, h.inst⟩
  rcases List.mem_cons.mp ha with rfl | ha
  · obtain ⟨hs, t, n, h1⟩ := h.dict; exact ⟨_, h1⟩
  rcases List.mem_cons.mp ha with rfl | ha
  · obtain ⟨n, h1⟩ := h.rows; exact ⟨_, h1⟩
  obtain ⟨p, hp, ha⟩ := List.mem_flatMap.mp ha
  obtain ⟨i, hi, hpi⟩ := List.getElem_of_mem hp
  have hlt : i < T.length := by rw [← h.len]; exact hi
  have R := h.row i T[i] p (by simp [hlt]) (by rw [List.getElem?_eq_getElem hi, hpi])
  unfold Plc.all at ha
  simp only [List.mem_cons, List.not_mem_nil, or_false] at ha
  rcases ha with rfl | rfl | rfl | rfl | rfl
  · exact ⟨_, R.inst⟩
  · obtain ⟨es, n, h1, _⟩ := R.dict; exact ⟨_, h1⟩
  · obtain ⟨vs, n, h1, _⟩ := R.kids; exact ⟨_, h1⟩
  · obtain ⟨vs, n, h1, _⟩ := R.atts; exact ⟨_, h1⟩
  · obtain ⟨vs, n, h1, _⟩ := R.nss; exact ⟨_, h1⟩

abbrev Ext (h h' : Heap) : Prop := ∀ a o, h.get? a = some o → h'.get? a = some o
def Mod (foot : List Addr) (h h' : Heap) : Prop := ∀ a o, h.get? a = some o → a ∉ foot → h'.get? a = some o
abbrev TreeH (h : Heap) (T : List RowD) (ad : TAd) : Prop := TreeAt h.get? T ad
theorem TreeAt.ext {h h' : Heap} {T : List RowD} {ad : TAd} (t : TreeH h T ad) (e : Ext h h') : TreeH h' T ad :=
  t.congr fun a ha => by
    obtain ⟨o, ho⟩ := t.live a ha
    rw [ho, e _ _ ho]
theorem TreeAt.row_of {g : Addr → Option Obj} {T : List RowD} {ad : TAd} (h : TreeAt g T ad) {i : Nat} {R : RowD} (hi : T[i]? = some R) : ∃ p, ad.ps[i]? = some p ∧ RowAt g R p := by
  have hl : i < T.length := (List.getElem?_eq_some_iff.mp hi).1
  have hl' : i < ad.ps.length := by rw [h.len]; exact hl
  exact ⟨ad.ps[i], by simp [hl'], h.row i R _ hi (by simp [hl'])⟩

/-! ## entering a def; the heap behind a call -/
structure AOk (A : Around) (d u : Nat) : Prop where
  hd : A.handled = none
  dp : A.depth + d ≤ 900
  un : A.units + u ≤ 9000
theorem AOk.room {A : Around} {d u : Nat} (h : AOk A d u) : A.depth < recursionLimit := by
  have := h.dp
  show A.depth < 1000
  omega
theorem AOk.cl {A : Around} {d u : Nat} (h : AOk A d u) : A.units < cLine := by
  have := h.un
  show A.units < 9900
  omega
theorem AOk.cl64 {A : Around} {d u : Nat} (h : AOk A d u) : A.units + 64 < cLine := by
  have := h.un
  show A.units + 64 < 9900
  omega
theorem AOk.deep {A : Around} {env : Env} {d u : Nat} (h : AOk A (d + 1) (u + 3)) : AOk (A.deeper env) d u where
  hd := h.hd
  dp := by have := h.dp; show A.depth + 1 + d ≤ 900; omega
  un := by have := h.un; show A.units + 3 + u ≤ 9000; omega
theorem AOk.in1 {A : Around} {d u : Nat} (h : AOk A d (u + 1)) : AOk A.in1 d u where
  hd := h.hd
  dp := h.dp
  un := by have := h.un; show A.units + 1 + u ≤ 9000; omega
theorem AOk.le {A : Around} {d u d' u' : Nat} (h : AOk A d u) (h1 : d' ≤ d) (h2 : u' ≤ u) : AOk A d' u' where
  hd := h.hd
  dp := by have := h.dp; omega
  un := by have := h.un; omega

theorem hideAll_ext (l : List Addr) (h : Heap) : Ext (hideAll h l) h := fun _ _ e => of_hideAll l e
theorem fr_ext {h₀ h h' : Heap} {L : Addr} {m : Str → Option Value} (F : Fr h₀ L h m) (e : Ext h h') : Fr h₀ L h' m :=
  ⟨F.ns.keeps e, fun b o x => e b o (F.keep b o x), F.above⟩
theorem news_ext {h₀ h h' : Heap} {L : Addr} {news : List (Addr × Obj)} (N : News h₀ L h news) (e : Ext h h') : News h₀ L h' news :=
  fun p hp => ⟨e _ _ (N p hp).1, (N p hp).2⟩

section
variable {prog : Program} {w : World} {loose : List Str} {mean : ExcName → Option Value} {mg mb : Str → Option Value} {K : Frag} {p : Program}
theorem enterK {A : Around} {Q E : Value → Shared → Prop} {s : Shared} {name qual : Str} {params : Arguments} {body : List Stmt} {scope : Scope} {dV kV doc pm cdv ct oc : Value} {an od : Option Addr} {osl : Array (Option Value)} {f : Addr} {vs : List Value}
    (binds : List (Str × Value))
    (X : K.In s.heap) (T : Top p loose mean mg mb s.heap)
    (ho : K.lookup f = some ⟨oc, od, .func (fnOf name qual params body scope dV kV doc pm an cdv ct), osl⟩) (hcd : codeIn K cdv qual = true) {d u : Nat} (hA : AOk A (d + 1) (u + 3))
    (hbind : bindArgs (fnOf name qual params body scope dV kV doc pm an cdv ct) ⟨vs, []⟩ = pure binds) (hloc : (binds.all fun x => decide (scope.names.lookup x.1 = some .local)) = true)
    (h : ∀ L h₁, Fr s.heap L h₁ (fun y => binds.reverse.lookup y) → News s.heap L h₁ [] → AOk (A.deeper (envOf qual scope L f cdv)) d u →
      wpAny (model prog w) (A.deeper (envOf qual scope L f cdv)) (execs body (envOf qual scope L f cdv))
        (fun fl s' => Q (match fl with | .ret v => v | _ => .none) s') (fun _ _ => False)
        { s with heap := h₁, toks := s.toks + binds.length })
    (hco : scope.isCoroutine = false) (hgen : scope.isGenerator = false) (hk : scope.kind = .function)
    (hcell : ∀ x ∈ scope.names, x.2 ≠ .cell) : wpAny (model prog w) A (call (.ref f) vs) Q E s := by
  refine wpAny_call (codeAny_call_def (fd := fnOf name qual params body scope dV kV doc pm an cdv ct) (body := body) (binds := binds) hA.room (X _ _ ho) rfl T.nolimit (codeRec_of X hcd) rfl (BindsTo.of_eq hbind) hcell (locs hloc) (fun h₁ hns hk₁ => ?_) hco hgen hk)
  exact wpAny_mono (h s.heap.objs.size h₁ ⟨hns, hk₁, Nat.le_refl _⟩ News.nil hA.deep) (fun _ _ x => x) fun _ _ x => x.elim

end
end Mine
end
section
open PySem PySem.W PySem.Calls PyProof.Rows
namespace Mine
/-! ## contracts -/
/-- what a call stands on: the written part and the top's facts hold of b, b stays in h -/
structure Gr (w : World) (loose : List Str) (mean : ExcName → Option Value) (mg mb : Str → Option Value) (b h : Heap) : Prop where
  X : (Mine.hd.heap_39 w.params).In b
  T : Top topProg loose mean mg mb b
  E : Ext b h
theorem Gr.ext {w : World} {loose : List Str} {mean : ExcName → Option Value} {mg mb : Str → Option Value} {b h h' : Heap} (G : Gr w loose mean mg mb b h) (e : Ext h h') : Gr w loose mean mg mb b h' := ⟨G.X, G.T, fun a o x => e a o (G.E a o x)⟩
theorem Gr.XH {w : World} {loose : List Str} {mean : ExcName → Option Value} {mg mb : Str → Option Value} {b h : Heap} (G : Gr w loose mean mg mb b h) : (Mine.hd.heap_39 w.params).In h := G.X.keeps G.E
theorem Gr.TH {w : World} {loose : List Str} {mean : ExcName → Option Value} {mg mb : Str → Option Value} {b h : Heap} (G : Gr w loose mean mg mb b h) : Top topProg loose mean mg mb h := G.T.keeps G.E

/-- a def that reads alone: it hands back v, all that stood stands -/
def Reads1 (prog : Program) (w : World) (loose : List Str) (mean : ExcName → Option Value) (mg mb : Str → Option Value) (f : Addr) (vs : List Value) (d u : Nat) (pre : Heap → Prop) (post : Heap → Value → Heap → Prop) : Prop :=
  ∀ (A : Around) (s : Shared) (Q E : Value → Shared → Prop), AOk A d u → Top topProg loose mean mg mb s.heap → (Mine.hd.heap_39 w.params).In s.heap → pre s.heap →
    (∀ v h' tk', Ext s.heap h' → post s.heap v h' → Q v { s with heap := h', toks := tk' }) → wpAny (model prog w) A (call (.ref f) vs) Q E s

section
variable {prog : Program} {w : World} {loose : List Str} {mean : ExcName → Option Value} {mg mb : Str → Option Value} {A : Around} {E : Value → Shared → Prop} {s : Shared} {h₀ : Heap} {L : Addr} {m : Str → Option Value} {news : List (Addr × Obj)} {K : Frag}
theorem Reads1.use {f : Addr} {vs : List Value} {d u : Nat} {pre : Heap → Prop} {post : Heap → Value → Heap → Prop} {Q : Value → Shared → Prop} (S : Reads1 prog w loose mean mg mb f vs d u pre post)
    (F : Fr h₀ L s.heap m) (N : News h₀ L s.heap news) (X : (Mine.hd.heap_39 w.params).In h₀) (T : Top topProg loose mean mg mb h₀) (hA : AOk A d u) (hp : pre s.heap)
    (k : ∀ v h' tk', Fr h₀ L h' m → News h₀ L h' news → Ext s.heap h' → post s.heap v h' → Q v { s with heap := h', toks := tk' }) : wpAny (model prog w) A (call (.ref f) vs) Q E s :=
  S A s Q E hA (T.keeps F.keep) (X.keeps F.keep) hp fun v h' tk' e hv => k v h' tk' (fr_ext F e) (news_ext N e) e hv

/-- a new object handed back -/
def NewObj (h : Heap) (v : Value) (h' : Heap) (o : Obj) : Prop := ∃ a, v = .ref a ∧ h.get? a = none ∧ h'.get? a = some o
theorem Reads1.useNew {f : Addr} {vs : List Value} {d u : Nat} {pre : Heap → Prop} {P : Obj → Prop} {Q : Value → Shared → Prop} (S : Reads1 prog w loose mean mg mb f vs d u pre (fun h v h' => ∃ o, NewObj h v h' o ∧ P o))
    (F : Fr h₀ L s.heap m) (N : News h₀ L s.heap news) (X : (Mine.hd.heap_39 w.params).In h₀) (T : Top topProg loose mean mg mb h₀) (hA : AOk A d u) (hp : pre s.heap)
    (k : ∀ a o h' tk', Fr h₀ L h' m → News h₀ L h' ((a, o) :: news) → (∀ p ∈ news, p.1 ≠ a) → Ext s.heap h' → P o → Q (.ref a) { s with heap := h', toks := tk' }) : wpAny (model prog w) A (call (.ref f) vs) Q E s :=
  S A s Q E hA (T.keeps F.keep) (X.keeps F.keep) hp fun v h' tk' e ⟨o, ⟨a, hv, hn, ha⟩, hP⟩ => by
    subst hv
    obtain ⟨oL, _, _, hL, _⟩ := F.ns
    refine k a o h' tk' (fr_ext F e) (fun p hp => ?_) (fun p hp q => ?_) e hP
    · rcases List.mem_cons.mp hp with rfl | hp
      · refine ⟨ha, fun q => ?_, ?_⟩
        · have q' : a = L := q
          rw [q', hL] at hn; cases hn
        cases q : h₀.get? a with
        | none => rfl
        | some o' => have := F.keep _ _ q; rw [hn] at this; cases this
      · exact (news_ext N e) p hp
    · have := (N p hp).1
      rw [q, hn] at this; cases this
/-- the end of a def that hands back a new object -/
theorem newObj_of {s : Shared} {h' : Heap} {news : List (Addr × Obj)} {L a : Addr} {o : Obj} (N : News s.heap L h' news) (hm : (a, o) ∈ news) : NewObj s.heap (.ref a) h' o := ⟨a, rfl, (N _ hm).2.2, (N _ hm).1⟩
def ListOf (l : List Nat) (o : Obj) : Prop := ∃ (vs : List Value) (n : Nat), o = listOf vs.toArray n ∧ IntsAre vs (natInts l)
theorem copy_ints {l : Addr} {xs : List Nat} {Q : Value → Shared → Prop} (F : Fr h₀ L s.heap m) (N : News h₀ L s.heap news) (hl : IntL s.heap.get? l xs) (hz : xs.length ≤ 100)
    (h : ∀ D vs c h', IntsAre vs (natInts xs) → Fr h₀ L h' m → News h₀ L h' ((D, listOf vs.toArray c) :: news) → (∀ p ∈ news, p.1 < D) → Q (.ref D) { s with heap := h' }) :
    wpAny (model prog w) A (call (.type "list") [.ref l]) Q E s := by
  obtain ⟨vs, n, h1, h2⟩ := hl
  have h3 := h2.length
  have h4 : (natInts xs).length = xs.length := by simp [natInts]
  refine list_copyK F N (PySem.IsL.isList (n := n) h1) (fun D c h' F' N' l1 => h D vs c h' h2 F' N' l1) ?_
  rw [sizeLine_eq, List.size_toArray]
  omega
theorem RowAt.live {g : Addr → Option Obj} {R : RowD} {p : Plc} (h : RowAt g R p) : ∀ a ∈ p.all, ∃ o, g a = some o := by
  intro a ha
  unfold Plc.all at ha
  simp only [List.mem_cons, List.not_mem_nil, or_false] at ha
  rcases ha with rfl | rfl | rfl | rfl | rfl
  · exact ⟨_, h.inst⟩
  · obtain ⟨es, n, h1, _⟩ := h.dict; exact ⟨_, h1⟩
  · obtain ⟨vs, n, h1, _⟩ := h.kids; exact ⟨_, h1⟩
  · obtain ⟨vs, n, h1, _⟩ := h.atts; exact ⟨_, h1⟩
  · obtain ⟨vs, n, h1, _⟩ := h.nss; exact ⟨_, h1⟩
theorem RowAt.ext {h h' : Heap} {R : RowD} {p : Plc} (r : RowAt h.get? R p) (e : Ext h h') : RowAt h'.get? R p :=
  r.congr fun a ha => by
    obtain ⟨o, ho⟩ := r.live a ha
    rw [ho, e _ _ ho]
/-! ## reading the tree -/
theorem g_own {C x d : Addr} {es : List DictEntry} {n : Nat} {name : Str} {v : Value} {attr : Option Value} {e : Bool} {Q : Value → Shared → Prop} (X : K.In s.heap) (hx : s.heap.get? x = some (instObj C d)) (hd : s.heap.get? d = some (dictOf es n))
    (hg : plainGet K C name = true) (hh : hasDictIn K C = true) (ha : findIn K (.ref C) name = some attr) (hn : noGet K attr = true) (hl : getL name es = some (some v)) (hv : handedIn v = true) (h : Q v { s with toks := s.toks + 1 }) :
    wpAny (model prog w) A (getAttr (.ref x) name e) Q E s := get_value X ⟨hx, rfl, rfl, hd⟩ (plainGet_of hg).1 (findObj_own hh ha hn (by rw [lookIn_dict]; exact hl)) hv h

variable {Tr : List RowD} {ad : TAd} {e : Bool}
theorem g_rows {Q : Value → Shared → Prop} (X : (Mine.hd.heap_39 w.params).In s.heap) (hT : TreeH s.heap Tr ad) (h : Q (.ref ad.rl) { s with toks := s.toks + 1 }) :
    wpAny (model prog w) A (getAttr (.ref ad.t) "rows" e) Q E s := by
  obtain ⟨hs, t, n, hd⟩ := hT.dict
  refine' g_own X hT.inst hd ?a ?b ?c ?d ?e ?f h
  case a => k_dflt k_is
  case b => k_dflt k_is
  case c => k_dflt k_is
  case d => k_dflt k_is
  case e => rfl
  case f => rfl
variable {i : Nat} {R : RowD} {pl : Plc}
theorem g_kind {Q : Value → Shared → Prop} (X : (Mine.hd.heap_39 w.params).In s.heap) (hR : RowAt s.heap.get? R pl) (h : ∀ t, Q (.str R.kind t) { s with toks := s.toks + 1 }) :
    wpAny (model prog w) A (getAttr (.ref pl.r) "kind" e) Q E s := by
  obtain ⟨es, n, hd, hE⟩ := hR.dict
  obtain ⟨t, ht⟩ := hE.kind
  refine' g_own X hR.inst hd ?a ?b ?c ?d ht rfl (h t)
  case a => k_dflt k_is
  case b => k_dflt k_is
  case c => k_dflt k_is
  case d => k_dflt k_is
theorem g_name {Q : Value → Shared → Prop} (X : (Mine.hd.heap_39 w.params).In s.heap) (hR : RowAt s.heap.get? R pl) (h : ∀ t, Q (.str R.name t) { s with toks := s.toks + 1 }) :
    wpAny (model prog w) A (getAttr (.ref pl.r) "name" e) Q E s := by
  obtain ⟨es, n, hd, hE⟩ := hR.dict
  obtain ⟨t, ht⟩ := hE.name
  refine' g_own X hR.inst hd ?a ?b ?c ?d ht rfl (h t)
  case a => k_dflt k_is
  case b => k_dflt k_is
  case c => k_dflt k_is
  case d => k_dflt k_is
theorem g_uri {Q : Value → Shared → Prop} (X : (Mine.hd.heap_39 w.params).In s.heap) (hR : RowAt s.heap.get? R pl) (h : ∀ t, Q (.str R.uri t) { s with toks := s.toks + 1 }) :
    wpAny (model prog w) A (getAttr (.ref pl.r) "uri" e) Q E s := by
  obtain ⟨es, n, hd, hE⟩ := hR.dict
  obtain ⟨t, ht⟩ := hE.uri
  refine' g_own X hR.inst hd ?a ?b ?c ?d ht rfl (h t)
  case a => k_dflt k_is
  case b => k_dflt k_is
  case c => k_dflt k_is
  case d => k_dflt k_is
theorem g_local {Q : Value → Shared → Prop} (X : (Mine.hd.heap_39 w.params).In s.heap) (hR : RowAt s.heap.get? R pl) (h : ∀ t, Q (.str R.loc t) { s with toks := s.toks + 1 }) :
    wpAny (model prog w) A (getAttr (.ref pl.r) "local" e) Q E s := by
  obtain ⟨es, n, hd, hE⟩ := hR.dict
  obtain ⟨t, ht⟩ := hE.loc
  refine' g_own X hR.inst hd ?a ?b ?c ?d ht rfl (h t)
  case a => k_dflt k_is
  case b => k_dflt k_is
  case c => k_dflt k_is
  case d => k_dflt k_is
theorem g_value {Q : Value → Shared → Prop} (X : (Mine.hd.heap_39 w.params).In s.heap) (hR : RowAt s.heap.get? R pl) (h : ∀ t, Q (.str R.value t) { s with toks := s.toks + 1 }) :
    wpAny (model prog w) A (getAttr (.ref pl.r) "value" e) Q E s := by
  obtain ⟨es, n, hd, hE⟩ := hR.dict
  obtain ⟨t, ht⟩ := hE.value
  refine' g_own X hR.inst hd ?a ?b ?c ?d ht rfl (h t)
  case a => k_dflt k_is
  case b => k_dflt k_is
  case c => k_dflt k_is
  case d => k_dflt k_is
theorem parV_handed {v : Value} {o : Option Nat} (h : ParV v o) : handedIn v = true := by
  cases o with
  | none => subst h; rfl
  | some i => obtain ⟨t, rfl⟩ := h; rfl
theorem g_parent {Q : Value → Shared → Prop} (X : (Mine.hd.heap_39 w.params).In s.heap) (hR : RowAt s.heap.get? R pl) (h : ∀ v, ParV v R.parent → Q v { s with toks := s.toks + 1 }) :
    wpAny (model prog w) A (getAttr (.ref pl.r) "parent" e) Q E s := by
  obtain ⟨es, n, hd, hE⟩ := hR.dict
  obtain ⟨v, hv, ht⟩ := hE.parent
  refine' g_own X hR.inst hd ?a ?b ?c ?d ht (parV_handed hv) (h v hv)
  case a => k_dflt k_is
  case b => k_dflt k_is
  case c => k_dflt k_is
  case d => k_dflt k_is
theorem g_kids {Q : Value → Shared → Prop} (X : (Mine.hd.heap_39 w.params).In s.heap) (hR : RowAt s.heap.get? R pl) (h : Q (.ref pl.c) { s with toks := s.toks + 1 }) :
    wpAny (model prog w) A (getAttr (.ref pl.r) "children" e) Q E s := by
  obtain ⟨es, n, hd, hE⟩ := hR.dict
  refine' g_own X hR.inst hd ?a ?b ?c ?d hE.kids rfl h
  case a => k_dflt k_is
  case b => k_dflt k_is
  case c => k_dflt k_is
  case d => k_dflt k_is
theorem g_atts {Q : Value → Shared → Prop} (X : (Mine.hd.heap_39 w.params).In s.heap) (hR : RowAt s.heap.get? R pl) (h : Q (.ref pl.a) { s with toks := s.toks + 1 }) :
    wpAny (model prog w) A (getAttr (.ref pl.r) "attributes" e) Q E s := by
  obtain ⟨es, n, hd, hE⟩ := hR.dict
  refine' g_own X hR.inst hd ?a ?b ?c ?d hE.atts rfl h
  case a => k_dflt k_is
  case b => k_dflt k_is
  case c => k_dflt k_is
  case d => k_dflt k_is
theorem g_nss {Q : Value → Shared → Prop} (X : (Mine.hd.heap_39 w.params).In s.heap) (hR : RowAt s.heap.get? R pl) (h : Q (.ref pl.n) { s with toks := s.toks + 1 }) :
    wpAny (model prog w) A (getAttr (.ref pl.r) "namespaces" e) Q E s := by
  obtain ⟨es, n, hd, hE⟩ := hR.dict
  refine' g_own X hR.inst hd ?a ?b ?c ?d hE.nss rfl h
  case a => k_dflt k_is
  case b => k_dflt k_is
  case c => k_dflt k_is
  case d => k_dflt k_is
theorem m_tree {name : Str} {f : Addr} {pls : Sem Bool} {Q : Value × List Value → Shared → Prop} (X : (Mine.hd.heap_39 w.params).In s.heap) (hT : TreeH s.heap Tr ad)
    (hg : plainGet (Mine.hd.heap_39 w.params) 313 name = true) (hf : findIn (Mine.hd.heap_39 w.params) (.ref 313) name = some (some (.ref f))) (ht : isFn (Mine.hd.heap_39 w.params) (.ref f) = true)
    (hl : ∀ hs t v, getL name [⟨hs, .str "rows" t, v⟩] = some none) (h : Q (.ref f, [.ref ad.t]) s) : wpAny (model prog w) A (getMethod (.ref ad.t) name pls) Q E s := by
  obtain ⟨hs, t, n, hd⟩ := hT.dict
  exact method_fn (od := some (dictOf [⟨hs, .str "rows" t, .ref ad.rl⟩] n)) X ⟨hT.inst, rfl, rfl, hd⟩ (plainGet_of hg).1 (plainGet_of hg).2 hf (beq_iff_eq.mp ht) (by show (lookIn name (dictOf [⟨hs, .str "rows" t, .ref ad.rl⟩] n)).map _ = _; rw [lookIn_dict, hl]; rfl) h
theorem len_list_at {l : Addr} {vs : List Value} {n : Nat} {Q : Value → Shared → Prop} (hl : s.heap.get? l = some (listOf vs.toArray n)) (hz : vs.length ≤ 1000000) (h : ∀ t, Q (.int (vs.length : Nat) t) { s with toks := s.toks + 1 + 1 }) :
    wpAny (model prog w) A (call (.builtin "len") [.ref l]) Q E s := by
  refine Calls.call_len_list (PySem.IsL.isList (n := n) hl) (by simp; omega) ?_
  simpa using h _
theorem item_list_at {value slice : PySem.Expr} {l : Addr} {vs : List Value} {n : Nat} {k : Int} {u : Tok} {v : Value} {Q : Value → Shared → Prop}
    (hl : s.heap.get? l = some (listOf vs.toArray n)) (h0 : 0 ≤ k) (hhi : k < 1000000) (hx : vs[k.toNat]? = some v) (h : Q v s)
    (hs : subscripted slice false (.ref l) (.int k u) = operate [.ref l, .int k u] (getItem (.ref l) (.int k u)) := by with_unfolding_all rfl) :
    wpAny (model prog w) A (subscriptTail value slice (.ref l) (.int k u)) Q E s :=
  tail_any (PySem.IsL.isList (n := n) hl).typeIs slot_list_getitem.lookup (wpAny_getItem_list (PySem.IsL.isList (n := n) hl) h0 (by omega) (by simpa using hx) h) hs
theorem mcall {M : Model} {o : PySem.Expr} {name : Str} {apos pos : Pos} {args : List PySem.Expr} {env : Env} {Q : Value → Shared → Prop}
    (h : wpAny M A (eval o env) (fun ov s₁ => wpAny M A (getMethod ov name (do return (← importBound o env).getD true)) (fun fx s₂ => wpAny M A (callWith pos fx.1 fx.2 (backTo pos (starEach args env)) []) Q E s₂) E s₁) E s)
    (hb : attributeBase o name env (eval o env) = eval o env) (hf : methodCallForm (args.length + ([] : List PySem.Keyword).length) (backTo pos (starEach args env)) [] = true) (hl : (apos.endLine == pos.line) = true) :
    wpAny M A (eval (.Call (.Attribute o name apos) args [] pos) env) Q E s := by
  rw [arm_eval_Call, hb]
  refine wpAny_bind (wpAny_mono h (fun ov s₁ h₁ => ?_) fun _ _ e => e)
  refine wpAny_bind (wpAny_standAt ?_)
  have hpos : methodCallPos true o env apos pos = pure pos := by unfold methodCallPos; simp [hl]
  show wpAny M A (methodCall o name apos pos env ov (args.length + ([] : List PySem.Keyword).length) (backTo pos (starEach args env)) []) Q E s₁
  unfold methodCall
  rw [hf]
  refine wpAny_bind (wpAny_holding (wpAny_mono h₁ (fun fx s₂ h₂ => ?_) fun _ _ e => e))
  exact wpAny_bind (wpAny_of_eq hpos h₂)
theorem mattr {o : PySem.Expr} {name : Str} {pos : Pos} {env : Env} {Q : Value → Shared → Prop}
    (h : wpAny (model prog w) A (eval o env) (fun ov s₁ => wpAny (model prog w) A (getAttr ov name true) Q E s₁) E s)
    (hb : attributeBase o name env (eval o env) = eval o env) : wpAny (model prog w) A (eval (.Attribute o name pos) env) Q E s := by
  rw [arm_eval_Attribute, hb]
  refine wpAny_bind (wpAny_mono h (fun ov s₁ h₁ => ?_) fun _ _ e => e)
  refine wpAny_bind (wpAny_standAt (wpAny_bind (wpAny_holding (wpAny_mono h₁ (fun r s₂ h₂ => ?_) fun _ _ e => e))))
  exact wpAny_bind (wpAny_letTemporaryGo (wpAny_pure h₂))
theorem len_rows {Q : Value → Shared → Prop} (hT : TreeH s.heap Tr ad) (h : ∀ t, Q (.int (Tr.length : Nat) t) { s with toks := s.toks + 1 + 1 }) :
    wpAny (model prog w) A (call (.builtin "len") [.ref ad.rl]) Q E s := by
  obtain ⟨n, hl⟩ := hT.rows
  have h1 := hT.len
  have h2 := hT.small
  refine len_list_at hl (by rw [List.length_map]; omega) fun t => ?_
  rw [List.length_map, h1]
  exact h t
theorem item_rows {value slice : PySem.Expr} {k : Nat} {u : Tok} {Q : Value → Shared → Prop} (hT : TreeH s.heap Tr ad) (hp : ad.ps[k]? = some pl) (h : Q (.ref pl.r) s)
    (hs : subscripted slice false (.ref ad.rl) (.int (k : Nat) u) = operate [.ref ad.rl, .int (k : Nat) u] (getItem (.ref ad.rl) (.int (k : Nat) u)) := by with_unfolding_all rfl) :
    wpAny (model prog w) A (subscriptTail value slice (.ref ad.rl) (.int (k : Nat) u)) Q E s := by
  obtain ⟨n, hl⟩ := hT.rows
  have h1 := hT.len
  have h2 := hT.small
  have h3 : k < ad.ps.length := (List.getElem?_eq_some_iff.mp hp).1
  exact item_list_at hl (by omega) (by omega) (by simp [hp]) h hs
end
end Mine
namespace Mine
open PySem PySem.W PySem.Calls PyProof.Rows
theorem fr_view {h₀ h : Heap} {L : Addr} {m : Str → Option Value} {x : Str} {v : Value} (F : Fr h₀ L h m) (e : m x = some v) : Fr h₀ L h (fun y => if y = x then some v else m y) := by
  have q : (fun y => if y = x then some v else m y) = m := by
    funext y
    by_cases hy : y = x
    · subst hy; simp [e]
    · simp [hy]
  rw [q]
  exact F
theorem noE {M : Model} {A : Around} {env : Env} : PassesOwn M A env (fun _ _ => False) := by intro e s h; exact h.elim
/-- from a node up to its top -/
inductive Up (T : List RowD) : Nat → List Nat → Prop
  | top {i : Nat} {R : RowD} : T[i]? = some R → R.parent = none → Up T i [i]
  | step {i j : Nat} {R : RowD} {l : List Nat} : T[i]? = some R → R.parent = some j → Up T j l → Up T i (i :: l)
/-- what is left of the way up: v is the node at hand, or none -/
def UpV (T : List RowD) (v : Value) (l : List Nat) : Prop := (v = .none ∧ l = []) ∨ ∃ i t, v = .int (i : Nat) t ∧ Up T i l
theorem natInts_append (a b : List Nat) : natInts (a ++ b) = natInts a ++ natInts b := by simp [natInts]
theorem natInts_length (a : List Nat) : (natInts a).length = a.length := by simp [natInts]
theorem ints_snoc {vs : List Value} {l : List Nat} {i : Nat} {t : Tok} (h : IntsAre vs (natInts l)) : IntsAre (vs ++ [.int (i : Nat) t]) (natInts (l ++ [i])) := by
  rw [natInts_append]; exact h.append (.cons _ _ .nil)
end Mine
namespace Mine
open PySem PySem.W PySem.Calls PyProof.Rows
def viewOf (l : List (Str × Value)) (m : Str → Option Value) (y : Str) : Option Value := match l.lookup y with | some v => some v | none => m y
theorem lookup_mem {l : List (Str × Value)} {y : Str} {v : Value} (h : l.lookup y = some v) : (y, v) ∈ l := by
  induction l with
  | nil => cases h
  | cons p r ih =>
    rw [List.lookup_cons] at h
    by_cases q : y == p.1
    · simp only [q] at h
      cases h
      have := eq_of_beq q
      subst this
      exact .head _
    · simp only [q] at h
      exact .tail _ (ih h)
theorem fr_look {h₀ h : Heap} {L : Addr} {m : Str → Option Value} (l : List (Str × Value)) (F : Fr h₀ L h m) (e : ∀ p ∈ l, m p.1 = some p.2) : Fr h₀ L h (viewOf l m) := by
  have q : viewOf l m = m := by
    funext y
    unfold viewOf
    cases hl : l.lookup y with
    | none => rfl
    | some v => exact (e _ (lookup_mem hl)).symm
  rw [q]
  exact F
end Mine
namespace Mine
open PySem PySem.W PySem.Calls PyProof.Rows
/-- a forest: a node, what is beneath it, its later siblings -/
inductive Fo where
  | nil
  | cons (i : Nat) (k r : Fo)
def Fo.size : Fo → Nat
  | .nil => 0
  | .cons _ k r => 1 + k.size + r.size
def Fo.depth : Fo → Nat
  | .nil => 0
  | .cons _ k r => max (1 + k.depth) r.depth
def Fo.app : Fo → Fo → Fo
  | .nil, g => g
  | .cons i k r, g => .cons i k (r.app g)
/-- the nodes alone, in the walk's order -/
def Fo.plain : Fo → List Nat
  | .nil => []
  | .cons i k r => i :: (k.plain ++ r.plain)
def IsF (T : List RowD) : Fo → List Nat → Prop
  | .nil, l => l = []
  | .cons i k r, l => ∃ R l', l = i :: l' ∧ T[i]? = some R ∧ IsF T k R.kids ∧ IsF T r l'
theorem Fo.plain_app (f g : Fo) : (f.app g).plain = f.plain ++ g.plain := by
  induction f with
  | nil => rfl
  | cons i k r _ ih => simp [Fo.app, Fo.plain, ih]
theorem Fo.size_app (f g : Fo) : (f.app g).size = f.size + g.size := by
  induction f with
  | nil => simp [Fo.app, Fo.size]
  | cons i k r _ ih => simp [Fo.app, Fo.size, ih]; omega
theorem IsF.app {T : List RowD} {f g : Fo} {a b : List Nat} (h : IsF T f a) (h' : IsF T g b) : IsF T (f.app g) (a ++ b) := by
  induction f generalizing a with
  | nil => cases h; exact h'
  | cons i k r _ ih =>
    obtain ⟨R, l', rfl, h1, h2, h3⟩ := h
    exact ⟨R, l' ++ b, rfl, h1, h2, ih h3⟩
theorem Fo.plain_size (f : Fo) : f.plain.length = f.size := by
  induction f with
  | nil => rfl
  | cons i k r ih1 ih2 => simp [Fo.plain, Fo.size, ih1, ih2]; omega
theorem IsF.length_le {T : List RowD} {f : Fo} {a : List Nat} (h : IsF T f a) : a.length ≤ f.size := by
  induction f generalizing a with
  | nil => cases h; simp [Fo.size]
  | cons i k r _ ih =>
    obtain ⟨R, l', rfl, h1, h2, h3⟩ := h
    have := ih h3
    simp [Fo.size]; omega
end Mine
namespace Mine
open PySem PySem.W PySem.Calls PyProof.Rows
theorem ints_snoc_inv {vs : List Value} {l : List Nat} {i : Nat} (h : IntsAre vs (natInts (l ++ [i]))) : ∃ vs' t, vs = vs' ++ [.int (i : Nat) t] ∧ IntsAre vs' (natInts l) := by
  induction l generalizing vs with
  | nil =>
    cases h with
    | cons n t h' => cases h'; exact ⟨[], t, rfl, .nil⟩
  | cons a l ih =>
    cases h with
    | cons n t h' =>
      obtain ⟨vs', t', rfl, h2⟩ := ih h'
      exact ⟨_ :: vs', t', rfl, .cons _ _ h2⟩
end Mine
namespace Mine
open PySem PySem.W PySem.Calls PyProof.Rows
theorem last_snoc (p : List Value) (y : Value) : kl_last (p ++ [y]) = some (p, y) := by
  induction p with
  | nil => rfl
  | cons a r ih => rw [List.cons_append, kl_last, ih]
theorem pop_snoc {prog : Program} {w : World} {A : Around} {E : Value → Shared → Prop} {s : Shared} {h₀ : Heap} {L D : Addr} {m : Str → Option Value} {news news' : List (Addr × Obj)} {n : Nat} {p : List Value} {y : Value} {Q : Value → Shared → Prop}
    (F : Fr h₀ L s.heap m) (N : News h₀ L s.heap news) (U : Upd D (listOf (p ++ [y]).toArray n) (listOf p.toArray (n + 1)) news news')
    (hz : p.length ≤ 1000000) (h : ∀ h', Fr h₀ L h' m → News h₀ L h' news' → Q y { s with heap := h' }) : wpAny (model prog w) A (call (.builtin "list.pop") [.ref D]) Q E s :=
  kl_pop (its := (p ++ [y]).toArray) F N (last_snoc p y) U (by rw [sizeLine_eq]; simp; omega) h
end Mine
namespace Mine
open PySem PySem.W PySem.Calls PyProof.Rows
/-! ## where the walk is to stop -/
section
variable {M : Model} {A : Around} {E : Value → Shared → Prop} {s : Shared} {env : Env} {Q : Value → Shared → Prop} {F : Flow → Shared → Prop} {U : Unit → Shared → Prop} {a b : Addr} {v : Value} {vs : List Value}
theorem st1 (h : wpAny M A (call (.ref a) vs) Q E s) : wpAny M A (call (.ref a) vs) Q E s := h
theorem st2 {x : PySem.Expr} {l r : List Stmt} {p : Pos} (h : wpAny M A (exec (.While x l r p) env) F E s) : wpAny M A (exec (.While x l r p) env) F E s := h
theorem st3 (h : wpAny M A (pyIter v) Q E s) : wpAny M A (pyIter v) Q E s := h
theorem st4 (h : wpAny M A (call (.type "zip") vs) Q E s) : wpAny M A (call (.type "zip") vs) Q E s := h
theorem st5 {ts : List PySem.Expr} {k : Nat} {p q : Pos} {i : PySem.Expr} {l r : List Stmt} (h : wpAny M A (exec (.For (.Tuple ts k p) i l r q) env) F E s) : wpAny M A (exec (.For (.Tuple ts k p) i l r q) env) F E s := h
theorem st6 {e : PySem.Expr} {gs : List PySem.Comprehension} {c : Scope} {p : Pos} (h : wpAny M A (eval (.ListComp e gs c p) env) Q E s) : wpAny M A (eval (.ListComp e gs c p) env) Q E s := h
theorem st7 {ts : List PySem.Expr} {e : PySem.Expr} {gs : List PySem.Comprehension} {c : Scope} {p q : Pos} (h : wpAny M A (exec (.Assign ts (.ListComp e gs c p) q) env) F E s) : wpAny M A (exec (.Assign ts (.ListComp e gs c p) q) env) F E s := h
theorem st8 {p : Plc} {n : Str} (h : wpAny M A (setAttr (.ref p.r) n v) U E s) : wpAny M A (setAttr (.ref p.r) n v) U E s := h
theorem stA (h : wpAny M A (call (.type "range") vs) Q E s) : wpAny M A (call (.type "range") vs) Q E s := h
theorem stB {x : PySem.Expr} {l r : List Stmt} {p : Pos} (h : wpAny M A (exec (.If x l r p) env) F E s) : wpAny M A (exec (.If x l r p) env) F E s := h
theorem stC {x : PySem.Expr} {lo up st : Option PySem.Expr} {p : Pos} {o i : Value} (h : wpAny M A (subscriptTail x (.Slice lo up st p) o i) Q E s) : wpAny M A (subscriptTail x (.Slice lo up st p) o i) Q E s := h
theorem stD {op : CmpOp} (h : wpAny M A (compareOp op (.ref a) (.ref b)) Q E s) : wpAny M A (compareOp op (.ref a) (.ref b)) Q E s := h
theorem stE {op : CmpOp} {k : Int} {t : Tok} (h : wpAny M A (compareOp op (.int k t) (.ref b)) Q E s) : wpAny M A (compareOp op (.int k t) (.ref b)) Q E s := h
end
section
variable {prog : Program} {w : World} {A : Around} {h₀ : Heap} {L : Addr} {m : Str → Option Value} {env : Env} {ct elt : PySem.Expr} {x : Str} {scope : Scope} {cl : List (Str × Addr)} {Fin : Shared → List Value → List (Addr × Obj) → Prop} {xv : Value} {s : Shared}
theorem st9 (h : LCg.CompSrc prog w A h₀ L m env elt x scope cl Fin xv s) : LCg.CompSrc prog w A h₀ L m env elt x scope cl Fin xv s := h
theorem st0 (h : LCt.CompSrcT prog w A h₀ L m env ct elt x scope cl Fin xv s) : LCt.CompSrcT prog w A h₀ L m env ct elt x scope cl Fin xv s := h
end
/-- a statement's aftermath behind one name, so that the terms stay small -/
def Gq (Q₀ Q : Flow → Shared → Prop) : Prop := ∀ f s, Q₀ f s → Q f s
theorem gq_cons {M : Model} {A : Around} {st : Stmt} {rest : List Stmt} {env : Env} {Q : Flow → Shared → Prop} {E : Value → Shared → Prop} {s : Shared}
    (h : ∀ Q', Gq (fun f s' => match f with | .next => wpAny M A (execs rest env) Q E s' | f => Q f s') Q' → wpAny M A (exec st env) Q' E s) :
    wpAny M A (execs (st :: rest) env) Q E s := wpAny_execs_cons (h _ fun _ _ h => h)
theorem Gq.use {Q₀ Q : Flow → Shared → Prop} {f : Flow} {s : Shared} (g : Gq Q₀ Q) (h : Q₀ f s) : Q f s := g f s h
end Mine
end
section
open PySem PySem.W PySem.Calls PyProof.Rows
namespace Mine
/-! ## loops -/
def TurnEnd (h₀ : Heap) (L : Addr) (own : List (Addr × Obj)) (ity : String) (J : (Str → Option Value) → List (Addr × Obj) → Prop) (s₁ : Shared) (Q : Flow → Shared → Prop) (f : Flow) (s₂ : Shared) : Prop :=
  match f with
  | .ret v => Q (.ret v) s₂
  | .brk => Q .next s₂
  | _ => ∃ h' tk m' all nx, s₂ = { s₁ with heap := h', toks := tk } ∧ Fr h₀ L h' m' ∧ News h₀ L h' all ∧ (∀ p ∈ own, p ∈ all) ∧ (∀ p ∈ nx, p ∈ all) ∧ (∀ p ∈ nx, p.2.cls ≠ .type ity) ∧ J m' nx

section
variable {prog : Program} {w : World} {A : Around} {E : Value → Shared → Prop} {s : Shared} {env : Env} {h₀ : Heap} {x : Str} {body : List Stmt} {Q : Flow → Shared → Prop}
theorem news_swap {h : Heap} {L : Addr} {a b : List (Addr × Obj)} (N : News h₀ L h (a ++ b)) : News h₀ L h (b ++ a) := fun p hp => N p ((List.mem_append.mp hp).elim (fun h => List.mem_append.mpr (.inr h)) fun h => List.mem_append.mpr (.inl h))
theorem own_ne {h : Heap} {L d : Addr} {o : Obj} {own all : List (Addr × Obj)} (N : News h₀ L h all) (hs : ∀ p ∈ own, p ∈ all) (hd : (d, o) ∈ all) (hc : ∀ p ∈ own, p.2.cls ≠ o.cls) : ∀ p ∈ own, p.1 ≠ d := fun p hp e => by
  have h1 := (N p (hs p hp)).1
  have h2 := (N _ hd).1
  rw [e, h2] at h1
  exact hc p hp (congrArg Obj.cls (Option.some.inj h1)).symm
/-- over a list of ints that stands still: in the base, or in the ledger -/
theorem loop_list {l : Addr} {vs : List Value} {c : Nat} {xs : List Nat} {m₀ : Str → Option Value} {all news : List (Addr × Obj)} (J : List Nat → List Nat → (Str → Option Value) → List (Addr × Obj) → Prop)
    (hh : A.handled = none) (hl : s.heap.get? l = some (listOf vs.toArray c)) (hi : IntsAre vs (natInts xs)) (hlL : l ≠ env.locals) (F : Fr h₀ env.locals s.heap m₀) (N : News h₀ env.locals s.heap all) (hs : ∀ p ∈ news, p ∈ all) (hj : J [] xs m₀ news)
    (turn : ∀ done y rest t m₁ news₁ h tk own, xs = done ++ y :: rest → J done (y :: rest) m₁ news₁ → (∀ p ∈ own, p.2.cls = .type "list" ∨ p.2.cls = .type "list_iterator") →
      Fr h₀ env.locals h (fun z => if z = x then some (.int (y : Nat) t) else m₁ z) → News h₀ env.locals h (news₁ ++ own) →
      wpAny (model prog w) A (execs body env) (TurnEnd h₀ env.locals own "list_iterator" (J (done ++ [y]) rest) { s with heap := h, toks := tk } Q) E { s with heap := h, toks := tk })
    (done : ∀ m₁ news₁ h tk, J xs [] m₁ news₁ → Fr h₀ env.locals h m₁ → News h₀ env.locals h news₁ → Q .next { s with heap := h, toks := tk }) :
    wpAny (model prog w) A (pyIter (.ref l)) (fun it s₂ => LoopAtV prog w A h₀ env x body Q E it s₂) E s := by
  have hls : s.heap.IsList l vs.toArray := PySem.IsL.isList (n := c) hl
  have hlt : l < s.heap.objs.size := Heap.lt_size hl
  have hne : l ≠ s.heap.objs.size := Nat.ne_of_lt hlt
  refine wpAny_pyIter_list hls ?_
  have W := Walks.list (prog := prog) (w := w) hh s.heap.objs.size l hne vs.toArray
  have hlen : vs.toArray.size = xs.length := by simp [hi.length, natInts_length]
  rw [hlen] at W
  let J' : Nat → (Str → Option Value) → List (Addr × Obj) → Prop := fun i m₁ news₁ => J (xs.take i) (xs.drop i) m₁ news₁
  have hLI : env.locals ≠ s.heap.objs.size := Nat.ne_of_lt F.ns.lt
  refine ⟨_, _, _, xs.length, _, _, m₀, news, J', rfl, W, ?_, ?_, ?_, ⟨⟨_, Heap.get?_push_size _ rfl, rfl, rfl⟩, hls.at fun o e => Heap.get?_push_of_some _ e⟩, F.push _, (fun p hp => ⟨Heap.get?_push_of_some _ (N p (hs p hp)).1, (N p (hs p hp)).2⟩), (by simpa [J'] using hj), ?_, ?_⟩
  · intro hm
    rcases List.mem_cons.mp hm with e | hm
    · exact hLI e
    · exact hlL (List.mem_singleton.mp hm).symm
  · intro b hb
    rw [List.mem_singleton.mp hb]
    exact next_is_new F
  · intro p hp hI
    exact absurd (Heap.lt_size (N p (hs p hp)).1) ((List.mem_singleton.mp hI) ▸ Nat.lt_irrefl _)
  · rintro i v m₁ news₁ s₁ own ⟨hh', tk', rfl⟩ hin hP hJ hoff hown hown2 hall hst F₁ N₁
    have hlt' : i < xs.length := hin
    obtain ⟨⟨oi, hoi, hoic, hoid⟩, hl₁⟩ := hst
    have hl₂ : hh'.get? l = some (listOf vs.toArray c) ∨ ∃ ol, hh'.get? l = some ol ∧ ol.cls = .type "list" := by
      obtain ⟨ol, hol, hc, _⟩ := hl₁
      exact .inr ⟨ol, hol, hc⟩
    have hcls : ∀ p ∈ own, p.2.cls = .type "list" ∨ p.2.cls = .type "list_iterator" := fun p hp => by
      have hg := hown2 p hp
      rcases List.mem_cons.mp (hown p hp) with e | e
      · rw [e] at hg
        have hg' : hh'.get? s.heap.objs.size = some p.2 := hg
        rw [hoi] at hg'
        cases hg'
        exact .inr hoic
      · rw [List.mem_singleton.mp e] at hg
        obtain ⟨ol, hol, hc, _⟩ := hl₁
        rw [hol] at hg
        cases hg
        exact .inl hc
    have hIown : (s.heap.objs.size, oi) ∈ own := hall _ (.head _) (next_is_new F) _ hoi
    obtain ⟨t, hx⟩ := hi.get i ((xs[i] : Nat) : Int) (by simp [natInts, hlt'])
    have hv : v = .int (xs[i] : Nat) t := by
      have hP' : vs[i]? = some v := by simpa using hP
      rw [hx] at hP'; exact (Option.some.inj hP').symm
    subst hv
    have hsplit : xs = xs.take i ++ xs[i] :: xs.drop (i + 1) := by rw [List.getElem_cons_drop, List.take_append_drop]
    have hd : xs.drop i = xs[i] :: xs.drop (i + 1) := (List.getElem_cons_drop hlt').symm
    have ht : xs.take (i + 1) = xs.take i ++ [xs[i]] := by rw [List.take_succ_eq_append_getElem hlt']
    have hJ₀ : J (xs.take i) (xs[i] :: xs.drop (i + 1)) m₁ news₁ := by rw [← hd]; exact hJ
    refine wpAny_mono (turn (xs.take i) xs[i] (xs.drop (i + 1)) t m₁ news₁ hh' tk' own hsplit hJ₀ hcls F₁ (news_swap N₁)) (fun f s₂ p => ?_) fun _ _ e => e
    have fin : (∃ h' tk m' all nx, s₂ = { s with heap := h', toks := tk } ∧ Fr h₀ env.locals h' m' ∧ News h₀ env.locals h' all ∧ (∀ p ∈ own, p ∈ all) ∧ (∀ p ∈ nx, p ∈ all) ∧ (∀ p ∈ nx, p.2.cls ≠ .type "list_iterator") ∧ J (xs.take i ++ [xs[i]]) (xs.drop (i + 1)) m' nx) →
        LoopStepU h₀ env.locals [s.heap.objs.size] own (J' (i + 1)) { s with heap := hh', toks := tk' } .next s₂ := by
      rintro ⟨h', tk, m', all', nx, e, F', N', ho, hn, hc, hm⟩
      refine ⟨rfl, h', tk, m', nx, e, F', fun p hp => N' p ((List.mem_append.mp hp).elim (ho p) (hn p)), fun p hp hq => ?_, ?_⟩
      · have h1 := (N' p (hn p hp)).1
        have h2 := (N' _ (ho _ hIown)).1
        rw [List.mem_singleton.mp hq, h2] at h1
        exact hc p hp ((congrArg Obj.cls (Option.some.inj h1)).symm.trans hoic)
      · show J (xs.take (i + 1)) (xs.drop (i + 1)) m' nx
        rw [ht]; exact hm
    cases f with
    | ret v => exact .ret p
    | brk => exact .brk p
    | next => exact .next (fin p)
    | cont => exact .cont (fin p)
  · rintro h' tk m' news' F' N' _ hJ
    have hJ₁ : J (xs.take xs.length) (xs.drop xs.length) m' news' := hJ
    rw [List.take_length, List.drop_length] at hJ₁
    exact done m' news' h' tk hJ₁ F' N'
end
end Mine
namespace Mine
/-! ## the walk -/
def attsOf (T : List RowD) (i : Nat) : List Nat := match T[i]? with | some R => R.atts | none => []
def nssOf (T : List RowD) (i : Nat) : List Nat := match T[i]? with | some R => R.nss | none => []
def Fo.walk (T : List RowD) : Fo → List Nat
  | .nil => []
  | .cons i k r => (i :: nssOf T i ++ attsOf T i ++ k.walk T) ++ r.walk T
/-- the walk of one node, k beneath it -/
def walk1Of (T : List RowD) (i : Nat) (k : Fo) : List Nat := i :: nssOf T i ++ attsOf T i ++ k.walk T
theorem nssOf_eq {T : List RowD} {i : Nat} {R : RowD} (h : T[i]? = some R) : nssOf T i = R.nss := by simp [nssOf, h]
theorem attsOf_eq {T : List RowD} {i : Nat} {R : RowD} (h : T[i]? = some R) : attsOf T i = R.atts := by simp [attsOf, h]
end Mine
end
section
open PySem PySem.W PySem.Calls PyProof.Rows
namespace Mine
/-! ## a def whose names are cells -/
section
variable {prog : Program} {w : World} {loose : List Str} {mean : ExcName → Option Value} {mg mb : Str → Option Value} {K : Frag} {p : Program}
theorem enterC {A : Around} {Q E : Value → Shared → Prop} {s : Shared} {name qual : Str} {params : Arguments} {body : List Stmt} {scope : Scope} {dV kV doc pm cdv ct oc : Value} {an od : Option Addr} {osl : Array (Option Value)} {f : Addr} {vs : List Value}
    (binds : List (Str × Value))
    (X : K.In s.heap) (T : Top p loose mean mg mb s.heap)
    (ho : K.lookup f = some ⟨oc, od, .func (fnOf name qual params body scope dV kV doc pm an cdv ct), osl⟩) (hcd : codeIn K cdv qual = true) {d u : Nat} (hA : AOk A (d + 1) (u + 3))
    (hbind : bindArgs (fnOf name qual params body scope dV kV doc pm an cdv ct) ⟨vs, []⟩ = pure binds)
    (hkind : (binds.all fun y => scope.names.lookup y.1 == some .local || scope.names.lookup y.1 == some .cell) = true)
    (hnd : ((cellsFrom 0 scope.names []).map (·.1)).Nodup)
    (h : ∀ L h₁ tk cells, Fr s.heap L h₁ (bindL (envOfC qual scope L f cdv).kindOf binds fun _ => none) → News s.heap L h₁ cells →
      CellsAre (bindC (envOfC qual scope L f cdv).kindOf binds fun _ => none) (cellsFrom (L + 1) scope.names []) cells → AOk (A.deeper (envOfC qual scope L f cdv)) d u →
      wpAny (model prog w) (A.deeper (envOfC qual scope L f cdv)) (execs body (envOfC qual scope L f cdv))
        (fun fl s' => Q (match fl with | .ret v => v | _ => .none) s') (fun _ _ => False)
        { s with heap := h₁, toks := tk })
    (hco : scope.isCoroutine = false) (hgen : scope.isGenerator = false) (hk : scope.kind = .function) : wpAny (model prog w) A (call (.ref f) vs) Q E s := by
  refine wpAny_call (codeAny_call_function (fd := fnOf name qual params body scope dV kV doc pm an cdv ct) (body := body) hA.room (X _ _ ho) rfl hco hgen rfl (codeRec_of X hcd) (BindsTo.of_eq hbind _ _ _ _ ?_))
  refine wpAny_newFunctionEnv_cells hk (kindsX hkind _) fun env' he s' x => ?_
  subst he
  refine ⟨T.nolimit.keeps x.toInCall.keep, codeAny_func ?_⟩
  obtain ⟨h₁, tk, rfl, _⟩ := x.done
  obtain ⟨cells, NC, Y⟩ := Cl.news (h₀ := s.heap) (Nat.le_refl _) fun n c hm => ⟨x.cell n c (lookup_of_mem_nodup (cellsFrom_names scope.names 0 (s.heap.objs.size + 1) [] [] rfl ▸ hnd) hm), x.above n c hm⟩
  exact wpAny_mono (h s.heap.objs.size h₁ tk cells ⟨x.toInCall.ns, x.toInCall.keep, Nat.le_refl _⟩ NC Y hA.deep) (fun _ _ x => x) fun _ _ x => x.elim
end

/-! ## list comprehensions over a list of ints -/
section
variable {prog : Program} {w : World} {A : Around} {s : Shared} {h₀ : Heap} {L : Addr} {m : Str → Option Value} {env : Env}
theorem rest_ints {elt : PySem.Expr} {x : Str} {scope : Scope} {cl : List (Str × Addr)} {S : List (Addr × Obj) → Prop} {Fin : List Value → List (Addr × Obj) → Prop} {xs : List Nat} {vs : List Value}
    (J : List Nat → List Nat → List Value → List (Addr × Obj) → Prop) (hi : IntsAre vs (natInts xs))
    (turn : ∀ done y rest ys news t I oI C oC D m₂ h tk (E' : Value → Shared → Prop), xs = done ++ y :: rest → J done (y :: rest) ys news → LCg.NsObj oC m₂ → m₂ x = some (.int (y : Nat) t) → Fr h₀ L h m → News h₀ L h ((I, oI) :: (C, oC) :: (D, LCg.lst ys) :: news) → LCg.Off3 I C D news → ((@Ne Nat I C) ∧ (@Ne Nat I D) ∧ (@Ne Nat C D)) →
      wpAny (model prog w) A (eval elt (compEnvC scope cl C env)) (LCg.CompEnd h₀ L m { s with heap := h, toks := tk } I oI C oC D (LCg.lst ys) S (fun y' news' => J (done ++ [y]) rest (ys ++ [y']) news')) E' { s with heap := h, toks := tk })
    (fin : ∀ ys news, J xs [] ys news → Fin ys news) :
    ∀ (rest done : List Nat) (ys : List Value) (news : List (Addr × Obj)), xs = done ++ rest → J done rest ys news →
      LCg.CompRest prog w A h₀ L m env elt x scope cl s S (fun i v => vs.toArray[i]? = some v) Fin rest.length done.length ys news := by
  intro rest
  induction rest with
  | nil =>
    intro done ys news hx hJ
    rw [List.append_nil] at hx
    subst hx
    exact LCg.CompRest.zero (fin ys news hJ)
  | cons y rest ih =>
    intro done ys news hx hJ
    refine LCg.CompRest.succ fun v I oI C oC D m₂ h tk E' hv hC hm F N off ne => ?_
    have hlt : done.length < xs.length := by rw [hx]; simp
    obtain ⟨t, ht⟩ := hi.get done.length (y : Int) (by rw [hx]; simp [natInts])
    have hv' : vs[done.length]? = some v := by simpa using hv
    rw [ht] at hv'
    cases hv'
    refine wpAny_mono (turn done y rest ys news t I oI C oC D m₂ h tk E' hx hJ hC hm F N off ne) (fun y' s' he => ?_) fun _ _ e => e
    obtain ⟨h', tk', news', e, F', N', o', hS, hr⟩ := he
    refine ⟨h', tk', news', e, F', N', o', hS, ?_⟩
    have := ih (done ++ [y]) (ys ++ [y']) news' (by rw [hx]; simp) hr
    rwa [List.length_append, List.length_singleton] at this
theorem restT_ints {ct elt : PySem.Expr} {x : Str} {scope : Scope} {cl : List (Str × Addr)} {S : List (Addr × Obj) → Prop} {Fin : List Value → List (Addr × Obj) → Prop} {xs : List Nat} {vs : List Value}
    (J : List Nat → List Nat → List Value → List (Addr × Obj) → Prop) (hi : IntsAre vs (natInts xs))
    (turn : ∀ done y rest ys news t I oI C oC D m₂ h tk (E' : Value → Shared → Prop), xs = done ++ y :: rest → J done (y :: rest) ys news → LCg.NsObj oC m₂ → m₂ x = some (.int (y : Nat) t) → Fr h₀ L h m → News h₀ L h ((I, oI) :: (C, oC) :: (D, LCg.lst ys) :: news) → LCg.Off3 I C D news → ((@Ne Nat I C) ∧ (@Ne Nat I D) ∧ (@Ne Nat C D)) →
      wpAny (model prog w) A (isTrue ct (compEnvC scope cl C env) (eval ct (compEnvC scope cl C env))) (fun ok s' => if ok = true then
        wpAny (model prog w) A (eval elt (compEnvC scope cl C env)) (LCg.CompEnd h₀ L m { s with heap := h, toks := tk } I oI C oC D (LCg.lst ys) S (fun y' news' => J (done ++ [y]) rest (ys ++ [y']) news')) E' s'
        else LCg.CompEnd h₀ L m { s with heap := h, toks := tk } I oI C oC D (LCg.lst ys) S (fun _ news' => J (done ++ [y]) rest ys news') Value.none s') E' { s with heap := h, toks := tk })
    (fin : ∀ ys news, J xs [] ys news → Fin ys news) :
    ∀ (rest done : List Nat) (ys : List Value) (news : List (Addr × Obj)), xs = done ++ rest → J done rest ys news →
      LCt.CompRestT prog w A h₀ L m env ct elt x scope cl s S (fun i v => vs.toArray[i]? = some v) Fin rest.length done.length ys news := by
  intro rest
  induction rest with
  | nil =>
    intro done ys news hx hJ
    rw [List.append_nil] at hx
    subst hx
    exact LCt.CompRestT.zero (fin ys news hJ)
  | cons y rest ih =>
    intro done ys news hx hJ
    refine LCt.CompRestT.succ fun v I oI C oC D m₂ h tk E' hv hC hm F N off ne => ?_
    obtain ⟨t, ht⟩ := hi.get done.length (y : Int) (by rw [hx]; simp [natInts])
    have hv' : vs[done.length]? = some v := by simpa using hv
    rw [ht] at hv'
    cases hv'
    have up : ∀ ys' news', J (done ++ [y]) rest ys' news' → LCt.CompRestT prog w A h₀ L m env ct elt x scope cl s S (fun i v => vs.toArray[i]? = some v) Fin rest.length (done.length + 1) ys' news' := fun ys' news' hr => by
      have := ih (done ++ [y]) ys' news' (by rw [hx]; simp) hr
      rwa [List.length_append, List.length_singleton] at this
    refine wpAny_mono (turn done y rest ys news t I oI C oC D m₂ h tk E' hx hJ hC hm F N off ne) (fun ok s' he => ?_) fun _ _ e => e
    by_cases hok : ok = true
    · rw [if_pos hok] at he ⊢
      refine wpAny_mono he (fun y' s' he => ?_) fun _ _ e => e
      obtain ⟨h', tk', news', e, F', N', o', hS, hr⟩ := he
      exact ⟨h', tk', news', e, F', N', o', hS, up _ _ hr⟩
    · rw [if_neg hok] at he ⊢
      obtain ⟨h', tk', news', e, F', N', o', hS, hr⟩ := he
      exact ⟨h', tk', news', e, F', N', o', hS, up _ _ hr⟩
/-- the source of a comprehension: a list of ints in the ledger -/
theorem src_ints {E : Value → Shared → Prop} {elt : PySem.Expr} {x : Str} {scope : Scope} {cl : List (Str × Addr)} {Fin : Shared → List Value → List (Addr × Obj) → Prop} {ax : Addr} {vs : List Value} {c : Nat} {xs : List Nat} {news all : List (Addr × Obj)} {s₁ : Shared}
    (J : List Nat → List Nat → List Value → List (Addr × Obj) → Prop) (hh : A.handled = none) (F : Fr h₀ L s₁.heap m) (N : News h₀ L s₁.heap all) (hsub : ∀ p ∈ news, p ∈ all) (hm : (ax, listOf vs.toArray c) ∈ news) (hi : IntsAre vs (natInts xs)) (hsz : xs.length ≤ 100000) (hJ : J [] xs [] news)
    (turn : ∀ done y rest ys news t I oI C oC D m₂ h tk (E' : Value → Shared → Prop), xs = done ++ y :: rest → J done (y :: rest) ys news → LCg.NsObj oC m₂ → m₂ x = some (.int (y : Nat) t) → Fr h₀ L h m → News h₀ L h ((I, oI) :: (C, oC) :: (D, LCg.lst ys) :: news) → LCg.Off3 I C D news → ((@Ne Nat I C) ∧ (@Ne Nat I D) ∧ (@Ne Nat C D)) →
      wpAny (model prog w) A (eval elt (compEnvC scope cl C env)) (LCg.CompEnd h₀ L m { s₁ with heap := h, toks := tk } I oI C oC D (LCg.lst ys) (LCg.SrcAt h₀ ax vs.toArray) (fun y' news' => J (done ++ [y]) rest (ys ++ [y']) news')) E' { s₁ with heap := h, toks := tk })
    (fin : ∀ (g : Heap) ys news, J xs [] ys news → Fin { s₁ with heap := g } ys news) :
    LCg.CompSrc prog w A h₀ L m env elt x scope cl Fin (.ref ax) s₁ := by
  have hl := hi.length
  rw [natInts_length] at hl
  refine LCg.CompSrc.ledger (k := c) hh F (fun p hp => N p (hsub p hp)) hm (by rw [sizeLine_eq, List.size_toArray]; omega) fun g => ?_
  have := rest_ints (prog := prog) (w := w) (A := A) (s := { s₁ with heap := g }) (h₀ := h₀) (L := L) (m := m) (env := env) (S := LCg.SrcAt h₀ ax vs.toArray) J hi turn (fin g) xs [] [] news rfl hJ
  rw [List.size_toArray, hl]
  exact this
theorem srcT_ints {E : Value → Shared → Prop} {ct elt : PySem.Expr} {x : Str} {scope : Scope} {cl : List (Str × Addr)} {Fin : Shared → List Value → List (Addr × Obj) → Prop} {ax : Addr} {vs : List Value} {c : Nat} {xs : List Nat} {news all : List (Addr × Obj)} {s₁ : Shared}
    (J : List Nat → List Nat → List Value → List (Addr × Obj) → Prop) (hh : A.handled = none) (F : Fr h₀ L s₁.heap m) (N : News h₀ L s₁.heap all) (hsub : ∀ p ∈ news, p ∈ all) (hm : (ax, listOf vs.toArray c) ∈ news) (hi : IntsAre vs (natInts xs)) (hsz : xs.length ≤ 100000) (hJ : J [] xs [] news)
    (turn : ∀ done y rest ys news t I oI C oC D m₂ h tk (E' : Value → Shared → Prop), xs = done ++ y :: rest → J done (y :: rest) ys news → LCg.NsObj oC m₂ → m₂ x = some (.int (y : Nat) t) → Fr h₀ L h m → News h₀ L h ((I, oI) :: (C, oC) :: (D, LCg.lst ys) :: news) → LCg.Off3 I C D news → ((@Ne Nat I C) ∧ (@Ne Nat I D) ∧ (@Ne Nat C D)) →
      wpAny (model prog w) A (isTrue ct (compEnvC scope cl C env) (eval ct (compEnvC scope cl C env))) (fun ok s' => if ok = true then
        wpAny (model prog w) A (eval elt (compEnvC scope cl C env)) (LCg.CompEnd h₀ L m { s₁ with heap := h, toks := tk } I oI C oC D (LCg.lst ys) (LCg.SrcAt h₀ ax vs.toArray) (fun y' news' => J (done ++ [y]) rest (ys ++ [y']) news')) E' s'
        else LCg.CompEnd h₀ L m { s₁ with heap := h, toks := tk } I oI C oC D (LCg.lst ys) (LCg.SrcAt h₀ ax vs.toArray) (fun _ news' => J (done ++ [y]) rest ys news') Value.none s') E' { s₁ with heap := h, toks := tk })
    (fin : ∀ (g : Heap) ys news, J xs [] ys news → Fin { s₁ with heap := g } ys news) :
    LCt.CompSrcT prog w A h₀ L m env ct elt x scope cl Fin (.ref ax) s₁ := by
  have hl := hi.length
  rw [natInts_length] at hl
  refine LCt.CompSrcT.ledger (k := c) hh F (fun p hp => N p (hsub p hp)) hm (by rw [sizeLine_eq, List.size_toArray]; omega) fun g => ?_
  have := restT_ints (prog := prog) (w := w) (A := A) (s := { s₁ with heap := g }) (h₀ := h₀) (L := L) (m := m) (env := env) (S := LCg.SrcAt h₀ ax vs.toArray) J hi turn (fin g) xs [] [] news rfl hJ
  rw [List.size_toArray, hl]
  exact this
end
end Mine
namespace Mine
section
variable {M : Model} {A : Around} {E : Value → Shared → Prop} {s : Shared} {K : Frag} {h₀ : Heap} {L a : Addr} {m mg mb : Str → Option Value} {cn : Str} {cs : Scope} {ccd : Value} {p : Program} {loose : List Str} {mean : ExcName → Option Value} {x : Str} {pos : Pos} {v : Value} {Q : Value → Shared → Prop}
theorem ldGC (F : Fr h₀ L s.heap m) (X : K.In h₀) (T : Top p loose mean mg mb h₀) (e : nsIn K mainGlobals x = some (some v)) (h : Q v s)
    (hk : cs.kind = .function := by rfl) (hx : (envOfC cn cs L a ccd).kindOf x = some .globalImplicit := by rfl) (hd : (x == ("__debug__" : Str)) = false := by decide) :
    wpAny M A (eval (.Name x pos) (envOfC cn cs L a ccd)) Q E s := nameX_K F X (topRead_of T) e h hk hx hd
theorem ldBC (F : Fr h₀ L s.heap m) (X : K.In h₀) (T : Top p loose mean mg mb h₀) (e : nsIn K mainGlobals x = some none) (hv : bootBuiltins x = some v) (hn : x ≠ "__name__") (h : Q v s)
    (hk : cs.kind = .function := by rfl) (hx : (envOfC cn cs L a ccd).kindOf x = some .globalImplicit := by rfl) (hd : (x == ("__debug__" : Str)) = false := by decide) :
    wpAny M A (eval (.Name x pos) (envOfC cn cs L a ccd)) Q E s := nameX_B F X (topRead_of T) e hv hn h hk hx hd
end
end Mine
end
section
open PySem PySem.W PySem.Calls PyProof.Rows
namespace Mine
/-! ## texts -/
def txt1 (T : List RowD) (i : Nat) : Option Str := match T[i]? with | some R => if R.kind = Str.ofString "text" then some R.value else none | none => none
def txtsL (T : List RowD) (l : List Nat) : List Str := l.filterMap (txt1 T)
def isPar (k : Str) : Bool := [Str.ofString "root", Str.ofString "element"].any (· == k)
def strVal (T : List RowD) (R : RowD) (k : Fo) : Str := if isPar R.kind then Txt.join (Str.ofString "") (txtsL T k.plain) else R.value
def ValsOk (T : List RowD) : Prop := ∀ (i : Nat) (R : RowD), T[i]? = some R → R.value.length ≤ 100
theorem IsF.mem {T : List RowD} {f : Fo} {a : List Nat} (h : IsF T f a) : ∀ i ∈ f.plain, ∃ R, T[i]? = some R := by
  induction f generalizing a with
  | nil => intro i hi; cases hi
  | cons j k r ih1 ih2 =>
    obtain ⟨R, l', rfl, h1, h2, h3⟩ := h
    intro i hi
    rcases List.mem_cons.mp hi with rfl | hi
    · exact ⟨R, h1⟩
    rcases List.mem_append.mp hi with hi | hi
    · exact ih1 h2 i hi
    · exact ih2 h3 i hi
theorem txtsL_snoc {T : List RowD} {l : List Nat} {i : Nat} : txtsL T (l ++ [i]) = txtsL T l ++ (txt1 T i).toList := by
  unfold txtsL
  rw [List.filterMap_append]
  cases h : txt1 T i <;> simp [h]
theorem strs_snoc {vs : List Value} {l : List Str} {y : Str} {t : Tok} (h : StrsAre vs l) : StrsAre (vs ++ [.str y t]) (l ++ [y]) := by
  induction h with
  | nil => exact .cons _ _ .nil
  | cons y' t' _ ih => exact .cons _ _ ih
theorem strs_len {vs : List Value} {l : List Str} (h : StrsAre vs l) : vs.length = l.length := by
  induction h with
  | nil => rfl
  | cons y t _ ih => simp [ih]
theorem txtsL_small {T : List RowD} (hv : ValsOk T) (l : List Nat) : ((txtsL T l).map (·.length)).sum + (txtsL T l).length ≤ 101 * l.length := by
  induction l with
  | nil => simp [txtsL]
  | cons i l ih =>
    unfold txtsL at ih ⊢
    rw [List.filterMap_cons]
    cases h : txt1 T i with
    | none => simp only [List.length_cons]; omega
    | some y =>
      have hy : y.length ≤ 100 := by
        unfold txt1 at h
        cases h2 : T[i]? with
        | none => rw [h2] at h; cases h
        | some R =>
          rw [h2] at h
          have := hv i R h2
          by_cases h3 : R.kind = Str.ofString "text"
          · simp only [h3, if_true] at h; cases h; exact this
          · simp only [h3, if_false] at h; cases h
      simp only [List.map_cons, List.sum_cons, List.length_cons]
      omega
end Mine
namespace Mine
open PySem PySem.W PySem.Calls PyProof.Rows
def rowK (T : List RowD) (i : Nat) : Str := match T[i]? with | some R => R.kind | none => Str.ofString ""
def rowV (T : List RowD) (i : Nat) : Str := match T[i]? with | some R => R.value | none => Str.ofString ""
/-- what the law says of each child's text -/
def Fo.ltxt (T : List RowD) : Fo → List Str
  | .nil => []
  | .cons i k r => (if rowK T i = Str.ofString "text" then rowV T i else Txt.join (Str.ofString "") (k.ltxt T)) :: r.ltxt T
def lawText (T : List RowD) (R : RowD) (k : Fo) : Str := if R.kind = Str.ofString "text" then R.value else Txt.join (Str.ofString "") (k.ltxt T)
theorem ltxt_cons {T : List RowD} {i : Nat} {R : RowD} {k r : Fo} (h : T[i]? = some R) : (Fo.cons i k r).ltxt T = lawText T R k :: r.ltxt T := by
  simp [Fo.ltxt, lawText, rowK, rowV, h]
end Mine
namespace Mine
open PySem PySem.W PySem.Calls PyProof.Rows
def catS (l : List Str) : Str := ⟨(l.flatMap fun s => s.cps.toList).toArray⟩
theorem str_empty : (Str.ofString "").cps = #[] := by decide
theorem join_catS (l : List Str) : Txt.join (Str.ofString "") l = catS l := by
  show PySem.Builtin.Str.glued _ _ = _
  rw [PySem.StrLaws.glued_eq_join]
  induction l with
  | nil => rfl
  | cons x r ih =>
    cases r with
    | nil => simp [Str.join, catS]
    | cons y r =>
      show x ++ Str.ofString "" ++ Str.join (Str.ofString "") (y :: r) = _
      rw [ih]
      show (⟨(x.cps ++ (Str.ofString "").cps) ++ _⟩ : Str) = _
      rw [str_empty]
      simp [catS]
theorem catS_length (l : List Str) : (catS l).length = (l.map (·.length)).sum := by
  induction l with
  | nil => rfl
  | cons x r ih =>
    have : (catS (x :: r)).length = x.length + (catS r).length := by simp [catS, Str.length]
    rw [this, ih]; rfl
theorem catS_append (a b : List Str) : catS (a ++ b) = catS [catS a, catS b] := by simp [catS]
theorem ltxt_small {T : List RowD} (hv : ValsOk T) (k : Fo) : ((k.ltxt T).map (·.length)).sum ≤ 100 * k.size ∧ (k.ltxt T).length ≤ k.size := by
  induction k with
  | nil => simp [Fo.ltxt]
  | cons i k r ih1 ih2 =>
    have h1 : (rowV T i).length ≤ 100 := by
      unfold rowV
      cases h : T[i]? with
      | none => decide
      | some R => exact hv i R h
    have h2 : (if rowK T i = Str.ofString "text" then rowV T i else Txt.join (Str.ofString "") (k.ltxt T)).length ≤ 100 * (1 + k.size) := by
      by_cases h : rowK T i = Str.ofString "text"
      · rw [if_pos h]; omega
      · rw [if_neg h, join_catS, catS_length]; omega
    simp only [Fo.ltxt, List.map_cons, List.sum_cons, List.length_cons, Fo.size]
    omega
end Mine
end
section
open PySem PySem.W PySem.Calls PyProof.Rows
namespace Mine
/-! ## for a, b in zip(l, r) -/
section
variable {prog : Program} {w : World} {A : Around} {s : Shared} {env : Env} {h₀ : Heap} {Q : Flow → Shared → Prop}
inductive ZipNext (h₀ : Heap) (L : Addr) (own : List (Addr × Obj)) (J : (Str → Option Value) → List (Addr × Obj) → Prop) (s₁ : Shared) (s₂ : Shared) : Prop where
  | intro (h' : Heap) (tk : Nat) (m' : Str → Option Value) (all nx : List (Addr × Obj)) (e1 : s₂ = { s₁ with heap := h', toks := tk }) (e2 : Fr h₀ L h' m') (e3 : News h₀ L h' all) (e4 : ∀ p ∈ own, p ∈ all) (e5 : ∀ p ∈ nx, p ∈ all) (e6 : ∀ p ∈ nx, ∀ q ∈ own, p.1 ≠ q.1) (e7 : J m' nx)
def ZipEnd (h₀ : Heap) (L : Addr) (own : List (Addr × Obj)) (J : (Str → Option Value) → List (Addr × Obj) → Prop) (s₁ : Shared) (Q : Flow → Shared → Prop) (f : Flow) (s₂ : Shared) : Prop :=
  match f with
  | .ret v => Q (.ret v) s₂
  | .brk => Q .next s₂
  | _ => ZipNext h₀ L own J s₁ s₂
/-- what the loop wants of its two lists -/
inductive ZipAt (prog : Program) (w : World) (A : Around) (h₀ : Heap) (env : Env) (xi xc : Str) (body : List Stmt) (Q : Flow → Shared → Prop) (xv : Value) (s : Shared) : Prop where
  | intro (l1 l2 : Addr) (vs1 vs2 : List Value) (xs ys : List Nat) (m : Str → Option Value) (news all : List (Addr × Obj)) (J : Nat → (Str → Option Value) → List (Addr × Obj) → Prop)
    (c1 : s.heap.IsList l1 vs1.toArray) (c2 : s.heap.IsList l2 vs2.toArray) (c3 : IntsAre vs1 (natInts xs)) (c4 : IntsAre vs2 (natInts ys)) (c5 : l1 ≠ env.locals) (c6 : l2 ≠ env.locals)
    (c7 : xv = .ref l1) (c8 : Fr h₀ env.locals s.heap m) (c9 : News h₀ env.locals s.heap all) (c10 : ∀ p ∈ news, p ∈ all) (c11 : J 0 m news)
    (turn : ∀ (i x y : Nat) tx ty m₁ news₁ h tk own, xs[i]? = some x → ys[i]? = some y → J i m₁ news₁ → (∀ p ∈ news₁, ∀ q ∈ own, p.1 ≠ q.1) →
      Fr h₀ env.locals h (fun z => if z = xc then some (.int (y : Nat) ty) else if z = xi then some (.int (x : Nat) tx) else m₁ z) → News h₀ env.locals h (news₁ ++ own) →
      wpAny (model prog w) A (execs body env) (ZipEnd h₀ env.locals own (J (i + 1)) { s with heap := h, toks := tk } Q) (fun _ _ => False) { s with heap := h, toks := tk })
    (fin : ∀ m₁ news₁ h tk, J (min xs.length ys.length) m₁ news₁ → Fr h₀ env.locals h m₁ → News h₀ env.locals h news₁ → Q .next { s with heap := h, toks := tk })
theorem not_own {h : Heap} {fp : List Addr} {nx : List (Addr × Obj)} {b : Addr} {o : Obj} (hb : b ∈ fp) (hn : h₀.get? b = none) (ho : h.get? b = some o) (hx : ∀ p ∈ nx, ∀ q ∈ ownOf h₀ fp h, p.1 ≠ q.1) : ∀ p ∈ nx, p.1 ≠ b :=
  fun p hp => hx p hp (b, o) (mem_ownOf hb hn ho)
def ZSt (z l1 l2 : Addr) (a1 a2 : Array Value) (i : Nat) (h : Heap) : Prop := IsZip h (z + 4) (z + 2) (z + 3) .none ∧ IsPair h (z + 2) (.ref z) (.ref (z + 1)) ∧ (∃ a b, IsPair h (z + 3) a b) ∧ h.IsListIter z l1 i ∧ h.IsListIter (z + 1) l2 i ∧ h.IsList l1 a1 ∧ h.IsList l2 a2
def ZMid (z l1 l2 : Addr) (a1 a2 : Array Value) (i : Nat) (T : Addr) (h : Heap) : Prop := IsZip h (z + 4) (z + 2) (z + 3) (rawInt T) ∧ IsPair h (z + 2) (.ref z) (.ref (z + 1)) ∧ (∃ a b, IsPair h (z + 3) a b) ∧ h.IsListIter z l1 (i + 1) ∧ h.IsListIter (z + 1) l2 (i + 1) ∧ h.IsList l1 a1 ∧ h.IsList l2 a2 ∧ T ≠ z + 4 ∧ T ≠ z + 3 ∧ T ≠ z ∧ T ≠ z + 1
def ZPt (a1 a2 : Array Value) (i : Nat) (vals : Array Value) : Prop := ∃ x y, a1[i]? = some x ∧ a2[i]? = some y ∧ vals = #[x, y]
theorem z_walks {z l1 l2 : Addr} (hh : A.handled = none) (D : ZipApart (z + 4) (z + 2) (z + 3) z (z + 1) l1 l2) (a1 a2 : Array Value) : WalksT prog w A (z + 4) [z + 4, z + 2, z + 3, z, z + 1, l1, l2] [z + 4, z + 3, z, z + 1] (min a1.size a2.size) (ZPt a1 a2) (ZSt z l1 l2 a1 a2) (ZMid z l1 l2 a1 a2) :=
  WalksT.zip2 hh _ _ _ _ _ l1 l2 D a1 a2
theorem ZSt.live {z l1 l2 : Addr} {a1 a2 : Array Value} {i : Nat} {h : Heap} (x : ZSt z l1 l2 a1 a2 i h) : ∀ b ∈ [z + 4, z + 2, z + 3, z, z + 1, l1, l2], ∃ o, h.get? b = some o := by
  obtain ⟨q1, q2, ⟨_, _, q3⟩, ⟨o4, q4, _⟩, ⟨o5, q5, _⟩, ⟨o6, q6, _⟩, ⟨o7, q7, _⟩⟩ := x
  intro b hb
  simp only [List.mem_cons, List.not_mem_nil, or_false] at hb
  rcases hb with rfl | rfl | rfl | rfl | rfl | rfl | rfl
  · exact ⟨_, q1⟩
  · exact ⟨_, q2⟩
  · exact ⟨_, q3⟩
  · exact ⟨_, q4⟩
  · exact ⟨_, q5⟩
  · exact ⟨_, q6⟩
  · exact ⟨_, q7⟩
inductive ZipJ (h₀ : Heap) (L : Addr) (s : Shared) (St : Nat → Heap → Prop) (fp : List Addr) (J : Nat → (Str → Option Value) → List (Addr × Obj) → Prop) (n k : Nat) (s' : Shared) : Prop where
  | intro (h' : Heap) (tk : Nat) (m' : Str → Option Value) (news' : List (Addr × Obj)) (i : Nat) (e1 : s' = { s with heap := h', toks := tk }) (e2 : St i h') (e3 : Fr h₀ L h' m') (e4 : News h₀ L h' news') (e5 : ∀ p ∈ news', p.1 ∉ fp) (e6 : J i m' news') (e7 : i ≤ n) (e8 : k = n + 1 - i)
theorem above_all {z L l1 l2 : Nat} (h : L < z) (h1 : L ≠ l1) (h2 : L ≠ l2) : L ∉ [z + 4, z + 2, z + 3, z, z + 1, l1, l2] := by
  have key : ∀ k, L ≠ z + k := fun k => Nat.ne_of_lt (Nat.lt_of_lt_of_le h (Nat.le_add_right z k))
  exact List.not_mem_cons_of_ne_of_not_mem (key 4) (List.not_mem_cons_of_ne_of_not_mem (key 2) (List.not_mem_cons_of_ne_of_not_mem (key 3) (List.not_mem_cons_of_ne_of_not_mem (key 0) (List.not_mem_cons_of_ne_of_not_mem (key 1) (List.not_mem_cons_of_ne_of_not_mem h1 (List.not_mem_cons_of_ne_of_not_mem h2 List.not_mem_nil))))))
theorem above_new {h₀ : Heap} {z : Nat} (h : ∀ k, h₀.get? (z + k) = none) : ∀ b ∈ [z + 4, z + 3, z, z + 1], h₀.get? b = none := by
  intro b hb
  simp only [List.mem_cons, List.not_mem_nil, or_false] at hb
  rcases hb with rfl | rfl | rfl | rfl
  · exact h 4
  · exact h 3
  · exact h 0
  · exact h 1
/-- the call of zip, the iterator and the loop at once -/
theorem zip_call {xi xc : Str} {pk pv pt : Pos} {x1 : Nat} {body : List Stmt} {l1 l2 : Addr} {vs1 vs2 : List Value} {xs ys : List Nat} {m : Str → Option Value} {news all : List (Addr × Obj)} (J : Nat → (Str → Option Value) → List (Addr × Obj) → Prop)
    (hh : A.handled = none) (hxi : env.kindOf xi = some .local) (hxc : env.kindOf xc = some .local)
    (hp : (env.scope.kind == .class || (env.scope.kind == .module && env.locals != env.globals)) = false)
    (hl1 : s.heap.IsList l1 vs1.toArray) (hl2 : s.heap.IsList l2 vs2.toArray) (hi1 : IntsAre vs1 (natInts xs)) (hi2 : IntsAre vs2 (natInts ys)) (hL1 : l1 ≠ env.locals) (hL2 : l2 ≠ env.locals)
    (F : Fr h₀ env.locals s.heap m) (N : News h₀ env.locals s.heap all) (hsub : ∀ p ∈ news, p ∈ all) (hJ : J 0 m news)
    (hn1 : ∀ p ∈ news, p.1 ≠ l1) (hn2 : ∀ p ∈ news, p.1 ≠ l2)
    (turn : ∀ (i x y : Nat) tx ty m₁ news₁ h tk own, xs[i]? = some x → ys[i]? = some y → J i m₁ news₁ → (∀ p ∈ news₁, ∀ q ∈ own, p.1 ≠ q.1) →
      Fr h₀ env.locals h (fun z => if z = xc then some (.int (y : Nat) ty) else if z = xi then some (.int (x : Nat) tx) else m₁ z) → News h₀ env.locals h (news₁ ++ own) →
      wpAny (model prog w) A (execs body env) (ZipEnd h₀ env.locals own (J (i + 1)) { s with heap := h, toks := tk } Q) (fun _ _ => False) { s with heap := h, toks := tk })
    (fin : ∀ m₁ news₁ h tk, J (min xs.length ys.length) m₁ news₁ → Fr h₀ env.locals h m₁ → News h₀ env.locals h news₁ → Q .next { s with heap := h, toks := tk }) :
    wpAny (model prog w) A (call (.type "zip") [.ref l1, .ref l2]) (fun xv s₁ => wpAny (model prog w) A (pyIter xv) (fun it s₂ =>
      codeAny (model prog w) A (.forLoop (.Tuple [.Name xi pk, .Name xc pv] x1 pt) it body [] env) (fun r s' => match r with | .ok f => Q f s' | .error e => cameBackBy (model prog w) A env (fun _ _ => False) e s') s₂) (fun _ _ => False) s₁) (fun _ _ => False) s := by
  refine call_zip_2 hl1 hl2 fun h' hz hTI hTO hit1 hit2 hsz hk => ?_
  have a1 : l1 < s.heap.objs.size := by obtain ⟨_, e, _⟩ := hl1; exact Heap.lt_size e
  have a2 : l2 < s.heap.objs.size := by obtain ⟨_, e, _⟩ := hl2; exact Heap.lt_size e
  have hLs : env.locals < s.heap.objs.size := F.ns.lt
  have W := z_walks (prog := prog) (w := w) hh (zipApart_new a1 a2) vs1.toArray vs2.toArray
  have F' : Fr h₀ env.locals h' m := ⟨F.ns.keeps hk, fun b o e => hk b o (F.keep b o e), F.above⟩
  have N' : News h₀ env.locals h' news := fun p hp => ⟨hk _ _ (N p (hsub p hp)).1, (N p (hsub p hp)).2⟩
  have hlen : min vs1.toArray.size vs2.toArray.size = min xs.length ys.length := by simp [hi1.length, hi2.length, natInts_length]
  rw [hlen] at W
  generalize hz0 : s.heap.objs.size = z at *
  have up : ∀ k, env.locals ≠ z + k := fun k e => Nat.ne_of_lt (Nat.lt_of_lt_of_le hLs (Nat.le_add_right _ k)) e
  have new : ∀ k, h₀.get? (z + k) = none := fun k => Heap.get?_none_of_le (Nat.le_trans F.above (Nat.le_trans (Nat.le_of_lt hLs) (Nat.le_add_right _ k)))
  have hLf : env.locals ∉ [z + 4, z + 2, z + 3, z, z + 1, l1, l2] := above_all hLs hL1.symm hL2.symm
  have hwr : ∀ b ∈ [z + 4, z + 3, z, z + 1], h₀.get? b = none := above_new new
  have hnf : ∀ p ∈ news, p.1 ∉ [z + 4, z + 2, z + 3, z, z + 1, l1, l2] := fun p hp => above_all (by have hq := Heap.lt_size (N p (hsub p hp)).1; rw [hz0] at hq; exact hq) (hn1 p hp) (hn2 p hp)
  have hst : ZSt z l1 l2 vs1.toArray vs2.toArray 0 h' := ⟨hz, hTI, ⟨_, _, hTO⟩, hit1, hit2, hl1.at fun o e => hk l1 o e, hl2.at fun o e => hk l2 o e⟩
  have live' : ∀ i h, ZSt z l1 l2 vs1.toArray vs2.toArray i h → ∀ b ∈ [z + 4, z + 2, z + 3, z, z + 1, l1, l2], ∃ o, h.get? b = some o := fun i h x => x.live
  clear hz hTI hTO hit1 hit2 new up
  refine W.self 0 _ _ _ hst ?_
  generalize [z + 4, z + 2, z + 3, z, z + 1, l1, l2] = fp at hLf hnf live' W
  generalize [z + 4, z + 3, z, z + 1] = wr at hwr W
  generalize ZSt z l1 l2 vs1.toArray vs2.toArray = St at hst live' W
  have hLw : env.locals ∉ wr := fun h => hLf (W.sub _ h)
  have old : ∀ b o, h₀.get? b = some o → b ∉ wr := fun b o e hb => by rw [hwr b hb] at e; cases e
  refine codeAny_forLoop_any
    (ZipJ h₀ env.locals s St fp J (min xs.length ys.length)) ?_ (min xs.length ys.length + 1)
    ⟨h', s.toks, m, news, 0, rfl, hst, F', N', hnf, hJ, Nat.zero_le _, rfl⟩
  rintro k s' ⟨H, tk, m', news', i, rfl, hst', F₀, N₀, hap, hJ', hi, rfl⟩
  have next : ∀ h₁ : Heap, (∀ b o, b ∉ wr → H.get? b = some o → h₁.get? b = some o) → Fr h₀ env.locals h₁ m' ∧ News h₀ env.locals h₁ news' := fun h₁ hk₁ =>
    ⟨⟨F₀.ns.at' fun o e => hk₁ _ o hLw e, fun b o e => hk₁ b o (old b o e) (F₀.keep b o e), F₀.above⟩, fun p hp => ⟨hk₁ _ _ (fun hb => hap p hp (W.sub _ hb)) (N₀ p hp).1, (N₀ p hp).2⟩⟩
  by_cases hlt : i < min xs.length ys.length
  · refine W.item i _ _ _ hlt hst' fun T vals h₁ tk₁ hPt _ hT hMid hk₁ => ?_
    obtain ⟨x, y, hx, hy, rfl⟩ := hPt
    refine W.go _ x1 pt i T _ _ _ hMid fun h₂ hst₂ hk₂ => ?_
    have ht₂ : h₂.IsTuple T #[x, y] := hT.at fun o e => hk₂ T o (W.apart i T h₁ hMid) e
    refine wpAny_assign_Tuple hh ht₂ rfl rfl fun h₃ hx₃ => ?_
    replace hx₃ : Heap.ExtBut h₂.objs.size h₂ h₃ := hx₃
    have up₃ : ∀ b o, h₂.get? b = some o → h₃.get? b = some o := fun b o x => hx₃ b o (Nat.ne_of_lt (Heap.lt_size x)) x
    obtain ⟨F₃, N₃⟩ := next h₃ fun b o hb x => up₃ b o (hk₂ b o hb (hk₁ b o hb x))
    have hx1 : ∃ (n1 : Nat) (t1 : Tok), xs[i]? = some n1 ∧ x = .int (n1 : Nat) t1 := by
      have hli : i < xs.length := Nat.lt_of_lt_of_le hlt (Nat.min_le_left _ _)
      obtain ⟨t, ht⟩ := hi1.get i ((xs[i] : Nat) : Int) (by simp [natInts, hli])
      have hx' : vs1[i]? = some x := by simpa using hx
      rw [ht] at hx'
      exact ⟨xs[i], t, by simp [hli], (Option.some.inj hx').symm⟩
    have hy1 : ∃ (n1 : Nat) (t1 : Tok), ys[i]? = some n1 ∧ y = .int (n1 : Nat) t1 := by
      have hli : i < ys.length := Nat.lt_of_lt_of_le hlt (Nat.min_le_right _ _)
      obtain ⟨t, ht⟩ := hi2.get i ((ys[i] : Nat) : Int) (by simp [natInts, hli])
      have hx' : vs2[i]? = some y := by simpa using hy
      rw [ht] at hx'
      exact ⟨ys[i], t, by simp [hli], (Option.some.inj hx').symm⟩
    obtain ⟨n1, t1, hn1', rfl⟩ := hx1
    obtain ⟨n2, t2, hn2', rfl⟩ := hy1
    show wpAny _ A (do holding [Value.int (n2 : Nat) t2] (assign (.Name xi pk) env (.int (n1 : Nat) t1)); do holding [] (assign (.Name xc pv) env (.int (n2 : Nat) t2)); pure ()) _ _ _
    refine wpAny_bind (wpAny_holding (wpAny_assign_Name (wpAny_storeName_local hxi F₃.ns (fun h₄ hn₄ hs₄ => ?_) hp)))
    replace hs₄ : Heap.SameBut env.locals h₃ h₄ := hs₄
    have F₄ := F₃.set hn₄ hs₄
    refine wpAny_bind (wpAny_holding (wpAny_assign_Name (wpAny_storeName_local hxc F₄.ns (fun h₅ hn₅ hs₅ => wpAny_pure ?_) hp)))
    replace hs₅ : Heap.SameBut env.locals h₄ h₅ := hs₅
    have F₅ := F₄.set hn₅ hs₅
    have N₅ : News h₀ env.locals h₅ news' := (N₃.set hs₄).set hs₅
    have hst₅ : St (i + 1) h₅ := W.frame _ _ _ hst₂ fun b hb o e => hs₅.extBut b o (fun q => hLf (q ▸ hb)) (hs₄.extBut b o (fun q => hLf (q ▸ hb)) (up₃ b o e))
    have hown : ∀ p ∈ news', ∀ q ∈ ownOf h₀ fp h₅, p.1 ≠ q.1 := fun p hp q hq e => hap p hp (e ▸ ownOf_sub q hq)
    refine wpAny_mono (turn i n1 n2 t1 t2 m' news' h₅ _ (ownOf h₀ fp h₅) hn1' hn2' hJ' hown F₅ (N₅.append (news_ownOf hLf))) (fun f s₃ h₆ => ?_) fun _ _ e => e.elim
    have back : ∀ th : Nat, ZipNext h₀ env.locals (ownOf h₀ fp h₅) (J (i + 1)) { s with heap := h₅, toks := th } s₃ → ∃ k', k' < min xs.length ys.length + 1 - i ∧ ZipJ h₀ env.locals s St fp J (min xs.length ys.length) k' s₃ := by
      rintro th ⟨h₆', tk₆, m₂, all₂, nx, rfl, F₆, N₆, ho, hn, ha, hJ₆⟩
      have keep6 : ∀ b ∈ fp, ∀ o, h₅.get? b = some o → h₆'.get? b = some o := fun b hb o e => by
        cases hn0 : h₀.get? b with
        | some o₀ =>
          have : o₀ = o := by have q := F₅.keep b o₀ hn0; rw [e] at q; exact (Option.some.inj q).symm
          exact this ▸ F₆.keep b o₀ hn0
        | none => exact (N₆ _ (ho _ (mem_ownOf hb hn0 e))).1
      refine ⟨min xs.length ys.length + 1 - (i + 1), Nat.sub_lt_sub_left (Nat.lt_succ_of_lt (by assumption)) (Nat.lt_succ_self i), h₆', tk₆, m₂, nx, i + 1, rfl, W.frame _ _ _ hst₅ keep6, F₆, fun p hp => N₆ p (hn p hp), fun p hp hb => ?_, hJ₆, hlt, rfl⟩
      obtain ⟨o, ho'⟩ := live' _ _ hst₅ p.1 hb
      cases hn0 : h₀.get? p.1 with
      | some o₀ => rw [(N₆ p (hn p hp)).2.2] at hn0; cases hn0
      | none => exact ha p hp _ (mem_ownOf hb hn0 ho') rfl
    cases f with
    | ret v => exact h₆
    | brk => exact h₆
    | cont => exact back _ h₆
    | next => exact back _ h₆
  · have hin : i = min xs.length ys.length := by omega
    subst hin
    refine W.done _ _ _ hst' fun h₁ tk₁ hk₁ => wpAny_execs_nil ?_
    obtain ⟨F₁, N₁⟩ := next h₁ hk₁
    exact fin m' news' h₁ tk₁ hJ' F₁ N₁
end
end Mine
namespace Mine
/-! ## places -/
def tupObj (vs : List Value) : Obj := { cls := .type "tuple", data := .seq vs.toArray }
def TupOf (l : List Int) (o : Obj) : Prop := ∃ vs : List Value, o = tupObj vs ∧ IntsAre vs l
theorem isInt_at {vs : List Value} {xs : List Nat} (hi : IntsAre vs (natInts xs)) (k : Nat) (i : Nat) (h : i < vs.length) (h' : i < xs.length) : isInt (k : Int) vs[i] = decide (xs[i] = k) := by
  obtain ⟨t, ht⟩ := hi.get i ((xs[i] : Nat) : Int) (by simp [natInts, h'])
  have : vs[i] = .int ((xs[i] : Nat) : Int) t := by rw [List.getElem?_eq_getElem h] at ht; exact Option.some.inj ht
  rw [this]
  show (((xs[i] : Nat) : Int) == (k : Int)) = _
  rw [Bool.eq_iff_iff]
  simp
  omega
section
variable {prog : Program} {w : World} {A : Around} {E : Value → Shared → Prop} {s : Shared}
theorem index_ints {D : Addr} {vs : List Value} {n : Nat} {xs : List Nat} {i : Nat} {t : Tok} {Q : Value → Shared → Prop} (hm : s.heap.get? D = some (listOf vs.toArray n)) (hi : IntsAre vs (natInts xs)) (hmem : i ∈ xs) (hz : xs.length ≤ 100000)
    (h : ∀ t', Q (.int (xs.idxOf i : Nat) t') { s with toks := s.toks + 1 }) : wpAny (model prog w) A (call (.builtin "list.index") [.ref D, .int (i : Nat) t]) Q E s := by
  have hl := hi.length
  rw [natInts_length] at hl
  have hj : xs.idxOf i < xs.length := List.idxOf_lt_length_of_mem hmem
  refine call_meets PySem.F.slot_list_index ⟨_, hm, rfl⟩ PySem.F.entry_list_index (PySem.F.args_list_index_2 _ _)
    (MeetsSeq.list_index D vs.toArray n (.int (i : Nat) t) (isInt (i : Nat)) (fun y hy => eq_isInt _ t hi y (by simpa using hy)) (xs.idxOf i) (by simp; omega) (by omega) ?_ ?_) ⟨hm, h _⟩
  · rw [List.getElem_toArray, isInt_at hi i _ (by omega) hj]
    simp [List.getElem_idxOf]
  · intro m hm' hlt
    rw [List.getElem_toArray, isInt_at hi i _ (by simpa using hm') (by omega)]
    rw [decide_eq_false]
    intro e
    exact absurd (List.not_of_lt_findIdx (p := (· == i)) (xs := xs) (i := m) hlt) (by simp [e])
end
def rowOf (T : List RowD) (i : Nat) : RowD := match T[i]? with | some R => R | none => ⟨Str.ofString "", Str.ofString "", Str.ofString "", Str.ofString "", Str.ofString "", none, [], [], []⟩
theorem rowOf_eq {T : List RowD} {i : Nat} {R : RowD} (h : T[i]? = some R) : rowOf T i = R := by simp [rowOf, h]
/-- the list of its parent in which a node stands -/
def sibs (R Rp : RowD) : List Nat := if R.kind = Str.ofString "namespace" then Rp.nss else if R.kind = Str.ofString "attribute" then Rp.atts else Rp.kids
def sortN (R : RowD) : Int := if R.kind = Str.ofString "namespace" then 0 else if R.kind = Str.ofString "attribute" then 1 else 2
def amongOf (T : List RowD) (p i : Nat) : List Int := [sortN (rowOf T i), ((sibs (rowOf T i) (rowOf T p)).idxOf i : Nat)]
end Mine
namespace Mine
def pairsPl (T : List RowD) : List Nat → List Int
  | a :: b :: r => amongOf T a b ++ pairsPl T (b :: r)
  | _ => []
def placeL (T : List RowD) : List Nat → List Int
  | [] => []
  | a :: r => (a : Int) :: pairsPl T (a :: r)
def Linked (T : List RowD) (line : List Nat) : Prop := ∀ (i a b : Nat), line[i]? = some a → line[i + 1]? = some b → ∃ Ra Rb, T[a]? = some Ra ∧ T[b]? = some Rb ∧ b ∈ sibs Rb Ra
theorem pairsPl_snoc (T : List RowD) (l : List Nat) (a b : Nat) : pairsPl T (l ++ [a, b]) = pairsPl T (l ++ [a]) ++ amongOf T a b := by
  induction l with
  | nil => simp [pairsPl]
  | cons x r ih =>
    cases r with
    | nil => simp [pairsPl]
    | cons y r => simp only [List.cons_append, pairsPl] at ih ⊢; rw [ih]; simp
theorem placeL_take (T : List RowD) (l : List Nat) (i a b : Nat) (ha : l[i]? = some a) (hb : l[i + 1]? = some b) : placeL T (l.take (i + 2)) = placeL T (l.take (i + 1)) ++ amongOf T a b := by
  have h1 : l.take (i + 1) = l.take i ++ [a] := by rw [List.take_add_one, ha]; rfl
  have h2 : l.take (i + 2) = l.take i ++ [a, b] := by rw [List.take_add_one, h1, hb]; simp
  have h3 := pairsPl_snoc T (l.take i) a b
  rw [h1, h2]
  cases hq : l.take i with
  | nil => simp [placeL, pairsPl]
  | cons x r =>
    rw [hq] at h3
    simp only [List.cons_append, placeL] at h3 ⊢
    rw [h3]
theorem placeL_len (T : List RowD) (l : List Nat) : (placeL T l).length ≤ 2 * l.length := by
  have h : ∀ l : List Nat, (pairsPl T l).length + 1 ≤ 2 * l.length ∨ l = [] := by
    intro l
    induction l with
    | nil => exact .inr rfl
    | cons a r ih =>
      left
      cases r with
      | nil => simp [pairsPl]
      | cons b r =>
        rcases ih with ih | ih
        · simp only [pairsPl, List.length_append, List.length_cons, amongOf, List.length_nil] at ih ⊢; omega
        · cases ih
  cases l with
  | nil => simp [placeL]
  | cons a r =>
    rcases h (a :: r) with h | h
    · simp only [placeL, List.length_cons] at h ⊢; omega
    · cases h
end Mine
namespace Mine
section
variable {prog : Program} {w : World} {A : Around} {E : Value → Shared → Prop} {s : Shared} {h₀ : Heap} {L a b : Addr} {m : Str → Option Value} {news : List (Addr × Obj)}
theorem add_tups {vs ws : List Value} {l1 l2 : List Int} {Q : Value → Shared → Prop} (F : Fr h₀ L s.heap m) (N : News h₀ L s.heap news) (ha : s.heap.get? a = some (tupObj vs)) (hb : s.heap.get? b = some (tupObj ws)) (hi : IntsAre vs l1) (hj : IntsAre ws l2) (n1 : 0 < l1.length) (n2 : 0 < l2.length) (hz : l1.length + l2.length ≤ 100000)
    (h : ∀ D h', Fr h₀ L h' m → News h₀ L h' ((D, tupObj (vs ++ ws)) :: news) → (∀ p ∈ news, p.1 < D) → IntsAre (vs ++ ws) (l1 ++ l2) → Q (.ref D) { s with heap := h' }) :
    wpAny (model prog w) A (binaryOp .Add (.ref a) (.ref b)) Q E s := by
  have e1 := hi.length
  have e2 := hj.length
  refine PySem.P.add_tuple (items := vs.toArray) (items2 := ws.toArray) ha hb (by simp; intro e; subst e; simp at e1; omega) (by simp; intro e; subst e; simp at e2; omega) ?_ (by rw [sizeLine_eq]; simp; omega)
  have e : vs.toArray ++ ws.toArray = (vs ++ ws).toArray := by simp
  rw [e]
  exact h _ _ (F.push _) (News.push F N _) (fun p hp => Heap.lt_size (N p hp).1) (hi.append hj)
end
end Mine
end
section
open PySem PySem.W PySem.Calls PyProof.Rows
namespace Mine
/-! ## tuples of ints, in order -/
def lexI : List Int → List Int → Bool
  | [], [] => false
  | [], _ :: _ => true
  | _ :: _, [] => false
  | a :: l, b :: r => if a = b then lexI l r else decide (a < b)
theorem rc_lt {prog : Program} {w : World} {A : Around} {E : Value → Shared → Prop} {s : Shared} {a b : Int} {t u : Tok} {Q : Value → Shared → Prop} (h : Q (.bool (decide (a < b))) s) : wpAny (model prog w) A (richCompare .Lt (.int a t) (.int b u)) Q E s := lt_int h
theorem tup_lt (l b : Addr) (vs ws : List Value) (xs ys : List Int) (hxs : IntsAre vs xs) (hys : IntsAre ws ys) :
    Meets (Builtin.«tuple.__lt__» ⟨[.ref l, .ref b], []⟩)
      (fun A R s => s.heap.get? l = some (tupObj vs) ∧ s.heap.get? b = some (tupObj ws) ∧ R (.ok (.ret (.bool (lexI xs ys)))) s) :=
  .of_wp fun prog w A R s h => by
    obtain ⟨hp, g, d, tk, os⟩ := s; obtain ⟨hl, hb, h⟩ := h
    have f2 := AutoSeq1.sub_tuple_tuple
    unfold tupObj at hl hb
    wp_walk using wpAny_loadPart' hl, wpAny_loadPart' hb, wpAny_forIn_list _ (fun rest b s' => b.1 = none ∧ s' = ⟨hp, g, d, tk, os⟩ ∧ ∃ (k : Nat) (vs' ws' : List Value) (xs' ys' : List Int), rest = vs'.zip ws' ∧ IntsAre vs' xs' ∧ IntsAre ws' ys' ∧ xs.length = k + xs'.length ∧ ys.length = k + ys'.length ∧
      R (.ok (.ret (.bool (lexI xs' ys'))))  ⟨hp, g, d, tk, os⟩) _
    case turn =>
      rintro ⟨y, x⟩ rest b s' ⟨hb', rfl, k, vs', ws', xs', ys', hz, hi, hj, hk1, hk2, hR⟩
      cases hi with
      | nil => cases hz
      | cons a t hi =>
        cases hj with
        | nil => cases hz
        | cons a2 t2 hj =>
          simp only [List.zip_cons_cons] at hz
          injection hz with hyx hrest
          cases hyx
          refine wpAny_bind (wpAny_eqBool_int ?_)
          by_cases hab : a = a2
          · subst hab
            simp only [lexI, if_true] at hR
            simp only [beq_self_eq_true]
            wp_walk
            exact ⟨rfl, rfl, k + 1, _, _, _, _, hrest, hi, hj, by simp at hk1; omega, by simp at hk2; omega, hR⟩
          · simp only [lexI, if_neg hab] at hR
            have hab' : (a == a2) = false := by simpa using hab
            rw [hab']
            wp_walk using rc_lt
            exact ⟨_, rfl, hR⟩
    case fin =>
      rintro ⟨b1, b2⟩ s' ⟨hb', rfl, k, vs', ws', xs', ys', hz, hi, hj, hk1, hk2, hR⟩
      simp only at hb'
      subst hb'
      have hsz : lexI xs' ys' = decide (vs.length < ws.length) := by
        rw [hxs.length, hys.length, hk1, hk2]
        cases hi with
        | nil => cases hj with
          | nil => simp [lexI]
          | cons a2 t2 hj => simp [lexI]
        | cons a t hi =>
          cases hj with
          | nil => simp [lexI]
          | cons a2 t2 hj => cases hz
      rw [hsz] at hR
      wp_walk
      exact ⟨_, rfl, by simpa [Builtin.Tuple.tupleCompareSizes] using hR⟩
    case h =>
      exact ⟨rfl, rfl, 0, vs, ws, xs, ys, rfl, hxs, hys, by simp, by simp, by simpa using h⟩
theorem lt_tups {prog : Program} {w : World} {A : Around} {E : Value → Shared → Prop} {s : Shared} {l b : Addr} {vs ws : List Value} {xs ys : List Int} {Q : Value → Shared → Prop} (hl : s.heap.get? l = some (tupObj vs)) (hb : s.heap.get? b = some (tupObj ws)) (hi : IntsAre vs xs) (hj : IntsAre ws ys) (hu : A.units < cLine)
    (h : Q (.bool (lexI xs ys)) s) : wpAny (model prog w) A (compareOp .Lt (.ref l) (.ref b)) Q E s :=
  show wpAny (model prog w) A (richCompare .Lt (.ref l) (.ref b)) Q E s from
  richCompare_meets_room (op := .Lt) ⟨_, hl, rfl⟩ ⟨_, hb, rfl⟩ PySem.F.slot_tuple_lt PySem.F.entry_tuple_lt (PySem.F.args_tuple_lt_2 _ _) (tup_lt l b vs ws xs ys hi hj)
    ⟨hl, hb, show Value.bool (lexI xs ys) ≠ Value.notImplemented ∧ Q (.bool (lexI xs ys)) s from ⟨(fun x => nomatch x), h⟩⟩ hu
end Mine
end
section
open PySem PySem.W PySem.Calls PyProof.Rows
namespace Mine
/-! ## the sort's questions, answered by ranks -/
section
variable {n : Nat} {f : Nat → Nat}
/-- asked by the ranks f, every question is of two of the n, and the outcome has P -/
def Snd (n : Nat) (f : Nat → Nat) {α : Type} : KasT α → (α → Prop) → Prop
  | .ret a, P => P a
  | .ask i j k, P => i < n ∧ j < n ∧ Snd n f (k (decide (f i < f j))) P
theorem Snd.bind {α β : Type} {g : α → KasT β} {P : β → Prop} : ∀ (t : KasT α), Snd n f t (fun a => Snd n f (g a) P) → Snd n f (t.bind g) P
  | .ret a, h => h
  | .ask i j k, h => ⟨h.1, h.2.1, Snd.bind (k _) h.2.2⟩
theorem Snd.mono {α : Type} {P P' : α → Prop} (hp : ∀ a, P a → P' a) : ∀ (t : KasT α), Snd n f t P → Snd n f t P'
  | .ret a, h => hp a h
  | .ask i j k, h => ⟨h.1, h.2.1, Snd.mono hp (k _) h.2.2⟩
theorem Snd.wp {α : Type} {cmp : Nat → Nat → (Bool → Shared → Prop) → Shared → Prop} {G : Shared → Prop} {P : α → Prop} {Q : α → Shared → Prop}
    (hc : ∀ i j (C : Bool → Shared → Prop) s, i < n → j < n → G s → (∀ s', G s' → C (decide (f i < f j)) s') → cmp i j C s) (hq : ∀ a s, G s → P a → Q a s) :
    ∀ (t : KasT α) (s : Shared), G s → Snd n f t P → t.kasWp cmp Q s
  | .ret a, s, hG, h => hq a s hG h
  | .ask i j k, s, hG, h => hc i j _ s h.1 h.2.1 hG fun s' hG' => Snd.wp hc hq (k _) s' hG' h.2.2

def Vr (f : Nat → Nat) (p : Array Nat) (k : Nat) : Nat := f (p.getD k 0)
structure Gd (n : Nat) (p : Array Nat) : Prop where
  size : p.size = n
  perm : p.Perm (List.range n).toArray
theorem Gd.lt {p : Array Nat} (h : Gd n p) {k : Nat} (hk : k < n) : p.getD k 0 < n := by
  have hk' : k < p.size := by rw [h.size]; exact hk
  have : p[k] ∈ (List.range n).toArray := (h.perm.mem_iff).mp (Array.getElem_mem hk')
  simpa [Array.getD, hk'] using this
theorem Gd.ne {p : Array Nat} (hf : ∀ i j, i < n → j < n → f i = f j → i = j) (h : Gd n p) {i j : Nat} (hi : i < n) (hj : j < n) (hne : i ≠ j) : Vr f p i ≠ Vr f p j := by
  intro e
  have e2 := hf _ _ (h.lt hi) (h.lt hj) e
  have hi' : i < p.toList.length := by simpa [h.size] using hi
  have hj' : j < p.toList.length := by simpa [h.size] using hj
  have hnd : p.toList.Nodup := (Array.perm_iff_toList_perm.mp h.perm).nodup_iff.mpr (by simpa using List.nodup_range)
  have a1 : p.getD i 0 = p.toList[i] := by simp [Array.getD, show i < p.size by simpa using hi']
  have a2 : p.getD j 0 = p.toList[j] := by simp [Array.getD, show j < p.size by simpa using hj']
  rw [a1, a2] at e2
  rcases Nat.lt_or_gt_of_ne hne with h | h
  · exact List.pairwise_iff_getElem.mp hnd i j hi' hj' h e2
  · exact List.pairwise_iff_getElem.mp hnd j i hj' hi' h e2.symm
def Asc (f : Nat → Nat) (p : Array Nat) (b : Nat) : Prop := ∀ i j, i < j → j < b → Vr f p i < Vr f p j
def Dsc (f : Nat → Nat) (p : Array Nat) (b : Nat) : Prop := ∀ i j, i < j → j < b → Vr f p j < Vr f p i
theorem Asc.ext {p : Array Nat} {k : Nat} (h : Asc f p k) (h1 : 1 ≤ k) (hl : Vr f p (k - 1) < Vr f p k) : Asc f p (k + 1) := by
  intro i j hij hj
  by_cases e : j = k
  · subst e
    by_cases e2 : i = j - 1
    · subst e2; exact hl
    · exact Nat.lt_trans (h i (j - 1) (Nat.lt_of_le_of_ne (Nat.le_sub_one_of_lt hij) e2) (Nat.sub_lt h1 Nat.one_pos)) hl
  · exact h i j hij (Nat.lt_of_le_of_ne (Nat.le_of_lt_succ hj) e)
theorem Dsc.ext {p : Array Nat} {k : Nat} (h : Dsc f p k) (h1 : 1 ≤ k) (hl : Vr f p k < Vr f p (k - 1)) : Dsc f p (k + 1) := by
  intro i j hij hj
  by_cases e : j = k
  · subst e
    by_cases e2 : i = j - 1
    · subst e2; exact hl
    · exact Nat.lt_trans hl (h i (j - 1) (Nat.lt_of_le_of_ne (Nat.le_sub_one_of_lt hij) e2) (Nat.sub_lt h1 Nat.one_pos))
  · exact h i j hij (Nat.lt_of_le_of_ne (Nat.le_of_lt_succ hj) e)
theorem asc_snd (hf : ∀ i j, i < n → j < n → f i = f j → i = j) {p : Array Nat} (hg : Gd n p) : ∀ (fu k : Nat), 1 ≤ k → k + fu ≤ n → Asc f p k →
    Snd n f (kas_asc p fu k) (fun m => k ≤ m ∧ m ≤ k + fu ∧ Asc f p m ∧ (m < k + fu → Vr f p m < Vr f p (m - 1)))
  | 0, k, h1, hk, ha => ⟨Nat.le_refl _, Nat.le_refl _, ha, fun h => absurd h (Nat.lt_irrefl _)⟩
  | fu + 1, k, h1, hk, ha => by
    have hkn : k < n := Nat.lt_of_lt_of_le (Nat.lt_add_of_pos_right (Nat.succ_pos fu)) hk
    have hk1 : k - 1 < n := Nat.lt_of_le_of_lt (Nat.sub_le k 1) hkn
    have hkk : k - 1 < k := Nat.sub_lt h1 Nat.one_pos
    have hk2 : k + 1 + fu ≤ n := (Nat.add_right_comm k 1 fu).symm ▸ hk
    refine ⟨hg.lt hkn, hg.lt hk1, ?_⟩
    by_cases hlt : Vr f p k < Vr f p (k - 1)
    · have : decide (f (p.getD k 0) < f (p.getD (k - 1) 0)) = true := decide_eq_true hlt
      rw [this]; dsimp only; rw [if_pos rfl]
      exact ⟨Nat.le_refl _, Nat.le_add_right _ _, ha, fun _ => hlt⟩
    · have : decide (f (p.getD k 0) < f (p.getD (k - 1) 0)) = false := decide_eq_false hlt
      rw [this]; dsimp only; rw [if_neg (by simp)]
      have hne := hg.ne hf (i := k) (j := k - 1) hkn hk1 (Nat.ne_of_gt hkk)
      refine Snd.mono (fun m hm => ?_) _ (asc_snd hf hg fu (k + 1) (Nat.le_add_left 1 k) hk2 (ha.ext h1 (Nat.lt_of_le_of_ne (Nat.le_of_not_lt hlt) (Ne.symm hne))))
      obtain ⟨a, b, c, d⟩ := hm
      rw [Nat.add_right_comm] at b d
      exact ⟨Nat.le_of_succ_le a, b, c, d⟩
theorem desc_snd (hf : ∀ i j, i < n → j < n → f i = f j → i = j) {p : Array Nat} (hg : Gd n p) : ∀ (fu k : Nat), 1 ≤ k → k + fu ≤ n → Dsc f p k →
    Snd n f (kas_desc fu p k 0) (fun r => ∃ m, r = (p, m, 0) ∧ 1 ≤ m ∧ m ≤ n ∧ Dsc f p m)
  | 0, k, h1, hk, ha => ⟨k, rfl, h1, hk, ha⟩
  | fu + 1, k, h1, hk, ha => by
    have hkn : k < n := Nat.lt_of_lt_of_le (Nat.lt_add_of_pos_right (Nat.succ_pos fu)) hk
    have hk1 : k - 1 < n := Nat.lt_of_le_of_lt (Nat.sub_le k 1) hkn
    have hkk : k - 1 < k := Nat.sub_lt h1 Nat.one_pos
    have hk2 : k + 1 + fu ≤ n := (Nat.add_right_comm k 1 fu).symm ▸ hk
    refine ⟨hg.lt hkn, hg.lt hk1, ?_⟩
    by_cases hlt : Vr f p k < Vr f p (k - 1)
    · have : decide (f (p.getD k 0) < f (p.getD (k - 1) 0)) = true := decide_eq_true hlt
      rw [this]; dsimp only; rw [if_pos rfl, if_neg (by simp)]
      exact desc_snd hf hg fu (k + 1) (Nat.le_add_left 1 k) hk2 (ha.ext h1 hlt)
    · have : decide (f (p.getD k 0) < f (p.getD (k - 1) 0)) = false := decide_eq_false hlt
      rw [this]; dsimp only; rw [if_neg (by simp)]
      have hne := hg.ne hf (i := k) (j := k - 1) hkn hk1 (Nat.ne_of_gt hkk)
      have h2 : decide (f (p.getD (k - 1) 0) < f (p.getD k 0)) = true := decide_eq_true (show Vr f p (k - 1) < Vr f p k from Nat.lt_of_le_of_ne (Nat.le_of_not_lt hlt) (Ne.symm hne))
      refine ⟨hg.lt hk1, hg.lt hkn, ?_⟩
      rw [h2]; dsimp only; rw [if_pos rfl]
      exact ⟨k, rfl, h1, Nat.le_of_lt hkn, ha⟩
theorem getD_opt (p : Array Nat) (k : Nat) : p.getD k 0 = (p[k]?).getD 0 := by simp
theorem rev_gd {p : Array Nat} (hg : Gd n p) (i j : Nat) : Gd n (kas_rev p i j) := ⟨(mirror_size _ _ _ _).trans hg.size, (mirror_perm _ _ _ _).trans hg.perm⟩
theorem rev_asc {p : Array Nat} (hg : Gd n p) {m : Nat} (hm : m ≤ n) (hd : Dsc f p m) : Asc f (kas_rev p 0 m) m := by
  have hk : ∀ k, k < m → Vr f (kas_rev p 0 m) k = Vr f p (m - 1 - k) := by
    intro k hk
    unfold Vr kas_rev
    rw [getD_opt, getD_opt, getElem?_mirror_all (by rw [hg.size]; exact hm), if_pos ⟨Nat.zero_le _, hk⟩, Nat.zero_add]
  intro i j hij hj
  rw [hk i (Nat.lt_trans hij hj), hk j hj]
  exact hd _ _ (Nat.sub_lt_sub_left (Nat.lt_of_lt_of_le hij (Nat.le_sub_one_of_lt hj)) hij) (Nat.lt_of_le_of_lt (Nat.sub_le _ _) (Nat.sub_lt (Nat.zero_lt_of_lt hj) Nat.one_pos))
theorem tail_snd (hf : ∀ i j, i < n → j < n → f i = f j → i = j) {p : Array Nat} (hg : Gd n p) {m : Nat} (h1 : 1 ≤ m) (hm : m ≤ n) (hd : Dsc f p m) :
    Snd n f (kas_tail3 m n p) (fun r => 1 ≤ r.1 ∧ r.1 ≤ n ∧ Gd n r.2 ∧ Asc f r.2 r.1) := by
  unfold kas_tail3
  refine Snd.bind _ (Snd.mono (fun k hk => ?_) _ (asc_snd hf (rev_gd hg 0 m) (n - m) m h1 (Nat.le_of_eq (Nat.add_sub_cancel' hm)) (rev_asc hg hm hd)))
  obtain ⟨a, b, c, d⟩ := hk
  exact ⟨Nat.le_trans h1 a, Nat.le_trans b (Nat.le_of_eq (Nat.add_sub_cancel' hm)), rev_gd hg 0 m, c⟩
theorem count_snd (hf : ∀ i j, i < n → j < n → f i = f j → i = j) {p : Array Nat} (hg : Gd n p) (h1 : 1 ≤ n) :
    Snd n f (kas_count n p) (fun r => 1 ≤ r.1 ∧ r.1 ≤ n ∧ Gd n r.2 ∧ Asc f r.2 r.1) := by
  unfold kas_count
  refine Snd.bind _ (Snd.mono (fun m hm => ?_) _ (asc_snd hf hg (n - 1) 1 (Nat.le_refl _) (Nat.le_of_eq (Nat.add_sub_cancel' h1)) (fun i j hij hj => absurd hij (by rw [Nat.lt_one_iff.mp hj]; exact Nat.not_lt_zero _))))
  obtain ⟨a, b, c, d⟩ := hm
  rw [Nat.add_sub_cancel' h1] at b d
  by_cases e : (m == n) = true
  · rw [if_pos e]; exact ⟨a, b, hg, c⟩
  · rw [if_neg e]
    have e' : m ≠ n := by simpa using e
    by_cases e2 : m > 1
    · rw [if_pos e2]
      refine ⟨hg.lt h1, hg.lt (Nat.lt_of_lt_of_le (Nat.sub_lt a Nat.one_pos) b), ?_⟩
      have : decide (f (p.getD 0 0) < f (p.getD (m - 1) 0)) = true := decide_eq_true (c 0 (m - 1) (Nat.sub_pos_of_lt e2) (Nat.sub_lt a Nat.one_pos))
      rw [this]; dsimp only; rw [if_pos rfl]
      exact ⟨a, b, hg, c⟩
    · rw [if_neg e2]
      have hm1 : m = 1 := Nat.le_antisymm (Nat.le_of_not_lt e2) a
      subst hm1
      have h2 := Nat.lt_of_le_of_ne b e'
      have hl := d h2
      unfold kas_descPart
      refine Snd.bind _ (Snd.mono (fun r hr => ?_) _ (desc_snd hf hg (n - (1 + 1)) (1 + 1) (by decide) (Nat.le_of_eq (Nat.add_sub_cancel' h2)) (fun i j hij hj => ?_)))
      · obtain ⟨m, rfl, q1, q2, q3⟩ := hr
        rw [if_neg (by simp)]
        exact tail_snd hf hg q1 q2 q3
      · have hj1 : j = 1 := Nat.le_antisymm (Nat.le_of_lt_succ hj) (Nat.lt_of_le_of_lt (Nat.zero_le i) hij)
        subst hj1
        have hi0 : i = 0 := Nat.lt_one_iff.mp hij
        subst hi0
        exact hl
theorem mid_lt {l r : Nat} (h : l < r) : l ≤ (l + r) / 2 ∧ (l + r) / 2 < r := by omega
theorem place_snd {p : Array Nat} (hf : ∀ i j, i < n → j < n → f i = f j → i = j) (hg : Gd n p) {k : Nat} (hk : k < n) (ha : Asc f p k) : ∀ (fu l r : Nat), l ≤ r → r ≤ k → r - l ≤ fu → (∀ i, i < l → Vr f p i < Vr f p k) → (∀ i, r ≤ i → i < k → Vr f p k < Vr f p i) →
    Snd n f (kas_place p k fu l r) (fun m => m ≤ k ∧ (∀ i, i < m → Vr f p i < Vr f p k) ∧ (∀ i, m ≤ i → i < k → Vr f p k < Vr f p i))
  | 0, l, r, h1, h2, h3, h4, h5 => ⟨Nat.le_trans h1 h2, h4, fun i hi => h5 i (Nat.le_trans (Nat.le_of_sub_eq_zero (Nat.le_zero.mp h3)) hi)⟩
  | fu + 1, l, r, h1, h2, h3, h4, h5 => by
    show Snd n f (if l ≥ r then _ else _) _
    by_cases e : l ≥ r
    · rw [if_pos e]; exact ⟨Nat.le_trans h1 h2, h4, fun i hi => h5 i (Nat.le_trans e hi)⟩
    · rw [if_neg e]
      have hm := mid_lt (Nat.lt_of_not_le e)
      generalize (l + r) / 2 = m at hm ⊢
      obtain ⟨hm1, hm2⟩ := hm
      have hmid : m < k := Nat.lt_of_lt_of_le hm2 h2
      refine ⟨hg.lt hk, hg.lt (Nat.lt_trans hmid hk), ?_⟩
      by_cases hlt : Vr f p k < Vr f p m
      · have : decide (f (p.getD k 0) < f (p.getD m 0)) = true := decide_eq_true hlt
        rw [this]; dsimp only; rw [if_pos rfl]
        refine place_snd hf hg hk ha fu l m hm1 (Nat.le_of_lt hmid) (Nat.le_of_lt_succ (Nat.lt_of_lt_of_le (Nat.sub_lt_sub_right hm1 hm2) h3)) h4 (fun i hi hik => ?_)
        by_cases e3 : i = m
        · subst e3; exact hlt
        · exact Nat.lt_trans hlt (ha _ _ (Nat.lt_of_le_of_ne hi (Ne.symm e3)) hik)
      · have : decide (f (p.getD k 0) < f (p.getD m 0)) = false := decide_eq_false hlt
        rw [this]; dsimp only; rw [if_neg (by simp)]
        have hne := hg.ne hf (i := k) (j := m) hk (Nat.lt_trans hmid hk) (Nat.ne_of_gt hmid)
        have hlt2 := Nat.lt_of_le_of_ne (Nat.le_of_not_lt hlt) (Ne.symm hne)
        refine place_snd hf hg hk ha fu (m + 1) r hm2 h2 (Nat.le_trans (Nat.sub_le_sub_left (Nat.succ_le_succ hm1) r) (Nat.pred_le_pred h3)) (fun i hi => ?_) h5
        by_cases e3 : i = m
        · subst e3; exact hlt2
        · exact Nat.lt_trans (ha i m (Nat.lt_of_le_of_ne (Nat.le_of_lt_succ hi) e3) hmid) hlt2
theorem bin_snd (hf : ∀ i j, i < n → j < n → f i = f j → i = j) : ∀ (fu : Nat) (p : Array Nat) (k : Nat), Gd n p → k + fu = n → Asc f p k → Snd n f (kas_bin fu p k) (fun p' => Gd n p' ∧ Asc f p' n)
  | 0, p, k, hg, hk, ha => ⟨hg, by rw [← hk]; exact ha⟩
  | fu + 1, p, k, hg, hk, ha => by
    have hkn : k < n := Nat.lt_of_lt_of_le (Nat.lt_add_of_pos_right (Nat.succ_pos fu)) (Nat.le_of_eq hk)
    show Snd n f ((kas_place p k k 0 k).bind _) _
    refine Snd.bind _ (Snd.mono (fun l hl => ?_) _ (place_snd hf hg hkn ha k 0 k (Nat.zero_le _) (Nat.le_refl _) (Nat.sub_le k 0) (fun i hi => absurd hi (Nat.not_lt_zero _)) (fun i hi hik => absurd hik (Nat.not_lt_of_le hi))))
    obtain ⟨h1, h2, h3⟩ := hl
    have hb : ∀ i, Vr f (bubble p k (k - l)) i = if i = l then Vr f p k else if l < i ∧ i ≤ k then Vr f p (i - 1) else Vr f p i := by
      intro i
      unfold Vr
      rw [getD_opt, getElem?_bubble (by rw [hg.size]; exact hkn) _ (Nat.sub_le k l), Nat.sub_sub_self h1]
      repeat' split
      all_goals rw [getD_opt]
    refine bin_snd hf fu _ (k + 1) ⟨(bubble_size _ _ _).trans hg.size, (bubble_perm _ _ _).trans hg.perm⟩ ((Nat.add_right_comm k 1 fu).trans hk) (fun i j hij hj => ?_)
    rw [hb i, hb j]
    have hjk := Nat.le_of_lt_succ hj
    have hj2 : j - 1 < k := Nat.lt_of_lt_of_le (Nat.sub_lt (Nat.zero_lt_of_lt hij) Nat.one_pos) hjk
    by_cases e1 : i = l
    · subst e1
      rw [if_pos rfl, if_neg (Nat.ne_of_gt hij), if_pos ⟨hij, hjk⟩]
      exact h3 _ (Nat.le_sub_one_of_lt hij) hj2
    · rw [if_neg e1]
      by_cases e2 : j = l
      · subst e2
        rw [if_pos rfl, if_neg (fun h => Nat.lt_asymm hij h.1)]
        exact h2 i hij
      · rw [if_neg e2]
        by_cases e3 : l < i
        · rw [if_pos ⟨e3, Nat.le_of_lt (Nat.lt_of_lt_of_le hij hjk)⟩, if_pos ⟨Nat.lt_trans e3 hij, hjk⟩]
          exact ha _ _ (Nat.sub_lt_sub_right (Nat.one_le_of_lt e3) hij) hj2
        · rw [if_neg (fun h => e3 h.1)]
          by_cases e4 : l < j
          · rw [if_pos ⟨e4, hjk⟩]
            by_cases e5 : i = j - 1
            · exact absurd (e5 ▸ Nat.le_sub_one_of_lt e4) (Nat.not_le_of_lt (Nat.lt_of_le_of_ne (Nat.le_of_not_lt e3) e1))
            · exact ha _ _ (Nat.lt_of_le_of_ne (Nat.le_sub_one_of_lt hij) e5) hj2
          · rw [if_neg (fun h => e4 h.1)]
            exact ha _ _ hij (Nat.lt_of_lt_of_le (Nat.lt_of_le_of_ne (Nat.le_of_not_lt e4) e2) h1)
theorem sort_snd (hf : ∀ i j, i < n → j < n → f i = f j → i = j) (h1 : 1 ≤ n) : Snd n f (kas_sort n) (fun p => Gd n p ∧ Asc f p n) := by
  unfold kas_sort
  refine Snd.bind _ (Snd.mono (fun r hr => ?_) _ (count_snd hf (p := List.toArray (List.range n)) ⟨by simp, .refl _⟩ h1))
  obtain ⟨q1, q2, q3, q4⟩ := hr
  by_cases e : r.1 < n
  · rw [if_pos e]
    exact bin_snd hf _ _ _ q3 (Nat.add_sub_cancel' (by rw [Nat.max_eq_left q1]; exact q2)) (by rw [Nat.max_eq_left q1]; exact q4)
  · rw [if_neg e]
    have : r.1 = n := Nat.le_antisymm q2 (Nat.le_of_not_lt e)
    exact ⟨q3, by rw [← this]; exact q4⟩
end
end Mine
end
section
open PySem PySem.W PySem.Calls PyProof.Rows
namespace Mine
/-! ## {x: value for x in ints} -/
section
variable {prog : Program} {w : World} {A : Around} {E : Value → Shared → Prop} {s : Shared} {h₀ : Heap} {L : Addr} {m : Str → Option Value} {env : Env}
abbrev ik (prog : Program) (w : World) := PySem.intKind prog w
inductive DcEnd (h₀ : Heap) (L : Addr) (m : Str → Option Value) (s₁ : Shared) (I : Addr) (oI : Obj) (C : Addr) (oC : Obj) (D : Addr) (oD : Obj) (S : List (Addr × Obj) → Prop) (kv : Value) (rest : Int → Value → List (Addr × Obj) → Prop) (y : Value) (s₂ : Shared) : Prop where
  | intro (h' : Heap) (tk : Nat) (k : Int) (t : Tok) (news' : List (Addr × Obj)) (e1 : s₂ = { s₁ with heap := h', toks := tk }) (e2 : kv = .int k t) (e3 : Fr h₀ L h' m) (e4 : News h₀ L h' ((I, oI) :: (C, oC) :: (D, oD) :: news')) (e5 : LCg.Off3 I C D news') (e6 : S news') (e7 : rest k y news')
inductive DcSrc (prog : Program) (w : World) (A : Around) (h₀ : Heap) (L : Addr) (m : Str → Option Value) (env : Env) (kx vx : PySem.Expr) (x : Str) (scope : Scope) (cl : List (Str × Addr)) (Q : Value → Shared → Prop) (xv : Value) (s₁ : Shared) : Prop where
  | intro (ax : Addr) (vs : List Value) (xs : List Nat) (news all : List (Addr × Obj)) (J : List Nat → List Nat → List (Int × Value) → List (Addr × Obj) → Prop) (e1 : xv = .ref ax) (hh : A.handled = none) (F : Fr h₀ L s₁.heap m) (N : News h₀ L s₁.heap all) (hsub : ∀ p ∈ news, p ∈ all) (hS : LCg.SrcAt h₀ ax vs.toArray news) (hi : IntsAre vs (natInts xs)) (hz : xs.length ≤ 100000) (hJ : J [] xs [] news)
    (turn : ∀ done y rest kvs oD news t I oI C oC D m₂ h tk (E' : Value → Shared → Prop), xs = done ++ y :: rest → J done (y :: rest) kvs news → oD.IsDictOf (ik prog w) kvs → LCg.NsObj oC m₂ → m₂ x = some (.int (y : Nat) t) → Fr h₀ L h m → News h₀ L h ((I, oI) :: (C, oC) :: (D, oD) :: news) → LCg.Off3 I C D news → ((@Ne Nat I C) ∧ (@Ne Nat I D) ∧ (@Ne Nat C D)) →
      wpAny (model prog w) A (eval kx (compEnvC scope cl C env)) (fun kv s' => wpAny (model prog w) A (eval vx (compEnvC scope cl C env)) (DcEnd h₀ L m { s₁ with heap := h, toks := tk } I oI C oC D oD (LCg.SrcAt h₀ ax vs.toArray) kv (fun k vv news' => J (done ++ [y]) rest (stored kvs k vv) news')) E' s') E' { s₁ with heap := h, toks := tk })
    (fin : ∀ D oD kvs h tk news, J xs [] kvs news → @LT.lt Nat _ L D → oD.IsDictOf (ik prog w) kvs → Fr h₀ L h m → News h₀ L h ((D, oD) :: news) → LCg.Off1 D news → Q (.ref D) { s₁ with heap := h, toks := tk })
theorem DcSrc.mk {kx vx : PySem.Expr} {x : Str} {scope : Scope} {cl : List (Str × Addr)} {Q : Value → Shared → Prop} {s₁ : Shared} {ax : Addr} {vs : List Value} {xs : List Nat} {news all : List (Addr × Obj)} (J : List Nat → List Nat → List (Int × Value) → List (Addr × Obj) → Prop)
    (hh : A.handled = none) (F : Fr h₀ L s₁.heap m) (N : News h₀ L s₁.heap all) (hsub : ∀ p ∈ news, p ∈ all) (hS : LCg.SrcAt h₀ ax vs.toArray news) (hi : IntsAre vs (natInts xs)) (hz : xs.length ≤ 100000) (hJ : J [] xs [] news)
    (turn : ∀ done y rest kvs oD news t I oI C oC D m₂ h tk (E' : Value → Shared → Prop), xs = done ++ y :: rest → J done (y :: rest) kvs news → oD.IsDictOf (ik prog w) kvs → LCg.NsObj oC m₂ → m₂ x = some (.int (y : Nat) t) → Fr h₀ L h m → News h₀ L h ((I, oI) :: (C, oC) :: (D, oD) :: news) → LCg.Off3 I C D news → ((@Ne Nat I C) ∧ (@Ne Nat I D) ∧ (@Ne Nat C D)) →
      wpAny (model prog w) A (eval kx (compEnvC scope cl C env)) (fun kv s' => wpAny (model prog w) A (eval vx (compEnvC scope cl C env)) (DcEnd h₀ L m { s₁ with heap := h, toks := tk } I oI C oC D oD (LCg.SrcAt h₀ ax vs.toArray) kv (fun k vv news' => J (done ++ [y]) rest (stored kvs k vv) news')) E' s') E' { s₁ with heap := h, toks := tk })
    (fin : ∀ D oD kvs h tk news, J xs [] kvs news → @LT.lt Nat _ L D → oD.IsDictOf (ik prog w) kvs → Fr h₀ L h m → News h₀ L h ((D, oD) :: news) → LCg.Off1 D news → Q (.ref D) { s₁ with heap := h, toks := tk }) :
    DcSrc prog w A h₀ L m env kx vx x scope cl Q (.ref ax) s₁ := ⟨ax, vs, xs, news, all, J, rfl, hh, F, N, hsub, hS, hi, hz, hJ, turn, fin⟩
theorem DcEnd.mk {s₁ : Shared} {I C D : Addr} {oI oC oD : Obj} {S : List (Addr × Obj) → Prop} {k : Int} {t : Tok} {rest : Int → Value → List (Addr × Obj) → Prop} {y : Value} {h' : Heap} {tk : Nat} {all : List (Addr × Obj)} (F : Fr h₀ L h' m) (N : News h₀ L h' all) (news' : List (Addr × Obj)) (sub : ∀ p ∈ (I, oI) :: (C, oC) :: (D, oD) :: news', p ∈ all) (off : LCg.Off3 I C D news') (hS : S news') (r : rest k y news') :
    DcEnd h₀ L m s₁ I oI C oC D oD S (.int k t) rest y { s₁ with heap := h', toks := tk } := ⟨h', tk, k, t, news', rfl, rfl, F, fun p hp => N p (sub p hp), off, hS, r⟩
inductive DcJ (prog : Program) (w : World) (h₀ : Heap) (L : Addr) (m : Str → Option Value) (s₁ : Shared) (I ax : Addr) (vs : List Value) (xs : List Nat) (J : List Nat → List Nat → List (Int × Value) → List (Addr × Obj) → Prop) (k : Nat) (s' : Shared) : Prop where
  | intro (h' : Heap) (tk i : Nat) (kvs : List (Int × Value)) (oD : Obj) (m' : Str → Option Value) (news' : List (Addr × Obj)) (e1 : s' = { s₁ with heap := h', toks := tk }) (e2 : i ≤ xs.length) (e3 : k = xs.length + 1 - i) (e4 : kvs.length ≤ i) (e5 : h'.IsListIter I ax i ∧ h'.IsList ax vs.toArray) (e6 : Fr h₀ L h' m) (e7 : h'.Ns (I + 2) m') (e8 : News h₀ L h' ((I + 1, oD) :: news'))
      (e9 : oD.IsDictOf (ik prog w) kvs) (e10 : LCg.Off3 I (I + 2) (I + 1) news') (e11 : LCg.SrcAt h₀ ax vs.toArray news') (e12 : J (xs.take i) (xs.drop i) kvs news')
theorem DictComp_ints {kx vx iter : PySem.Expr} {x : Str} {px : Pos} {scope : Scope} {cl : List (Str × Addr)} {pos : Pos} {Q : Value → Shared → Prop} (F₀ : Fr h₀ L s.heap m)
    (hclos : closureFor scope env = pure cl) (hcell : ∀ y ∈ scope.names, y.2 ≠ .cell) (hkind : scope.kind = .function)
    (hnames : ∀ y ∈ scope.names, y.2 = .local → scope.names.lookup y.1 = some .local) (hx : scope.names.lookup x = some .local)
    (h : wpAny (model prog w) A (eval iter env) (DcSrc prog w A h₀ L m env kx vx x scope cl Q) E s)
    (hs : ∀ x, foldedSetIterable iter env x = pure x := by intro _; rfl) :
    wpAny (model prog w) A (eval (.DictComp kx vx [⟨.Name x px, iter, [], 0⟩] scope pos) env) Q E s := by
  rw [arm_eval_DictComp]
  refine wpAny_comprehension_free (use := none) rfl hs hclos hkind hnames (wpAny_mono h (fun xv s₁ h₁ => ?_) fun _ _ e => e)
  obtain ⟨ax, vs, xs, news, all, J, rfl, hh, F, N, hsub, S, hi, hsz, hJ, turn, fin⟩ := h₁
  have Nn : News h₀ L s₁.heap news := fun p hp => N p (hsub p hp)
  have hl := S.list F.keep Nn
  have hvl := hi.length
  rw [natInts_length] at hvl
  have hlt0 : ax < s₁.heap.objs.size := by obtain ⟨_, e, _⟩ := hl; exact Heap.lt_size e
  refine wpAny_pyIter_list hl ?_
  generalize hit : ({ cls := .type "list_iterator", data := .fields #[.ref ax, .int 0 0] } : Obj) = itO
  have W := Walks.list (prog := prog) (w := w) hh s₁.heap.objs.size ax (Nat.ne_of_lt hlt0) vs.toArray
  have hn : vs.toArray.size = xs.length := by rw [List.size_toArray]; exact hvl
  rw [hn] at W
  generalize hI : s₁.heap.objs.size = I at *
  have up : ∀ b o, s₁.heap.get? b = some o → (s₁.heap.push itO).get? b = some o := fun b o e => Heap.get?_push_of_some _ e
  have hIo : (s₁.heap.push itO).get? I = some itO := by rw [← hI]; exact Heap.get?_push_size _ (by rw [← hit]; rfl)
  have hst0 : (s₁.heap.push itO).IsListIter I ax 0 ∧ (s₁.heap.push itO).IsList ax vs.toArray := ⟨⟨itO, hIo, by rw [← hit], by rw [← hit]; rfl⟩, hl.push _⟩
  have hIL : L ≠ I := Nat.ne_of_lt (hI ▸ F.ns.lt)
  have hI₀ : h₀.get? I = none := by rw [← hI]; exact next_is_new F
  have hsz1 : (s₁.heap.push itO).objs.size = I + 1 := by rw [Heap.size_push, hI]
  refine wpAny_newObj_type (wpAny_newFunctionEnv hcell (by intro y hy; simp at hy) (fun h₁ hns₁ hsb₁ => ?_) hkind)
  dsimp only at hns₁ hsb₁ ⊢
  have hnew : ((s₁.heap.push itO).push { cls := .type "dict", dict := none, data := .dict #[] }).DictOf (ik prog w) (s₁.heap.push itO).objs.size [] := Heap.DictOf.new _
  generalize hH2 : (s₁.heap.push itO).push { cls := .type "dict", dict := none, data := .dict #[] } = H2 at hns₁ hsb₁ hnew ⊢
  have hD : (s₁.heap.push itO).objs.size = I + 1 := hsz1
  have hC : H2.objs.size = I + 2 := by rw [← hH2, Heap.size_push, hsz1]
  rw [hC] at hns₁ hsb₁
  rw [hD] at hnew
  have ad : ∀ k : Nat, I ≠ I + (k + 1) := fun k => Nat.ne_of_lt (Nat.lt_add_of_pos_right (Nat.succ_pos k))
  have hCI : I ≠ I + 2 := ad 1
  have hDI : I ≠ I + 1 := ad 0
  have hDC : I + 1 ≠ I + 2 := fun e => by have : (I : Nat) + 1 = I + 2 := e; omega
  have below : ∀ b, b < I → b ≠ I ∧ b ≠ I + 1 ∧ b ≠ I + 2 := fun b hb => ⟨Nat.ne_of_lt hb, Nat.ne_of_lt (Nat.lt_succ_of_lt hb), Nat.ne_of_lt (Nat.lt_succ_of_lt (Nat.lt_succ_of_lt hb))⟩
  have hLlt : L < I := hI ▸ F.ns.lt
  have up2 : ∀ b o, (s₁.heap.push itO).get? b = some o → H2.get? b = some o := fun b o e => hH2 ▸ Heap.get?_push_of_some _ e
  have old : ∀ b o, s₁.heap.get? b = some o → h₁.get? b = some o := fun b o e => hsb₁.extBut b o (below b (hI ▸ Heap.lt_size e)).2.2 (Heap.get?_push_of_some _ (up2 _ _ (up _ _ e)))
  have new₀ : ∀ k : Nat, h₀.get? (I + k) = none := fun k => Heap.get?_none_of_le (Nat.le_trans F.above (Nat.le_trans (Nat.le_of_lt hLlt) (Nat.le_add_right _ k)))
  have hC₀ := new₀ 2
  have hD₀ := new₀ 1
  have hCL : I + 2 ≠ L := Ne.symm (below L hLlt).2.2
  have hDL : I + 1 ≠ L := Ne.symm (below L hLlt).2.1
  have hacc : h₁.DictOf (ik prog w) (I + 1) [] := hnew.at fun o e => hsb₁.extBut _ _ hDC (Heap.get?_push_of_some _ e)
  have hst₁ : h₁.IsListIter I ax 0 ∧ h₁.IsList ax vs.toArray := W.frame _ _ _ hst0 fun b hb o e => hsb₁.extBut b o (by
    rcases List.mem_cons.mp hb with rfl | hb
    · exact hCI
    · rw [List.mem_singleton.mp hb]; exact (below ax hlt0).2.2) (Heap.get?_push_of_some _ (up2 _ _ e))
  have off₀ : LCg.Off3 I (I + 2) (I + 1) news := LCg.Off3.of fun p hp => by
    have := hI ▸ Heap.lt_size (Nn p hp).1
    exact ⟨(below _ this).1, (below _ this).2.2, (below _ this).2.1⟩
  have fpI : I ∈ [I, ax] := List.mem_cons_self
  have hCf : ∀ b ∈ [I, ax], b ≠ I + 2 := fun b hb => by
    rcases List.mem_cons.mp hb with rfl | hb
    · exact hCI
    · rw [List.mem_singleton.mp hb]; exact (below ax hlt0).2.2
  have hDf : ∀ b ∈ [I, ax], b ≠ I + 1 := fun b hb => by
    rcases List.mem_cons.mp hb with rfl | hb
    · exact hDI
    · rw [List.mem_singleton.mp hb]; exact (below ax hlt0).2.1
  obtain ⟨oD₁, hoD₁, hdD₁⟩ := Heap.dictOf_iff.mp hacc
  have loop : ∀ s₃ : Shared, s₃ = { s₁ with heap := h₁, toks := s₁.toks + ([] : List (Str × Value)).length } →
      codeAny (model prog w) A (.compLoop (.DictComp kx vx [⟨.Name x px, iter, [], 0⟩] scope pos) 0 (.ref I) (.ref (I + 1)) (compEnvC scope cl (I + 2) env))
        (compPost (model prog w) A E none Q (.ref (I + 1)) (I + 2)) s₃ := by
    rintro s₃ rfl
    refine codeAny_compLoop_testsD
      (DcJ prog w h₀ L m s₁ I ax vs xs J) ?_ (xs.length + 1)
      ⟨h₁, _, 0, [], oD₁, _, news, rfl, Nat.zero_le _, rfl, Nat.le_refl _, hst₁, F.keeps old, hns₁, fun p hp => ?_, hdD₁, off₀, S, by simpa using hJ⟩
    · rintro k s' ⟨h', tk, i, kvs, oD, m', news', rfl, hi', rfl, hkl, hst', F', hn', N', hdD, off', hS', hJ'⟩
      by_cases hlt : i < xs.length
      · refine W.item i _ _ _ hlt hst' fun v h₂ tk₂ hPv hst₂ hk₂ => ?_
        refine wpAny_assign_Name (wpAny_storeName_local (lookup_relabel_local hx) (hn'.at' fun o e => hk₂ _ o (by simpa using Ne.symm hCI) e) (fun h₃ hn₃ hs₃ => ?_) (by simp [compEnvC, relabel, hkind]))
        refine wpAny_tests_nil ?_
        simp only [if_true]
        have hst₃ : h₃.IsListIter I ax (i + 1) ∧ h₃.IsList ax vs.toArray := W.frame _ _ _ hst₂ fun b hb o e => hs₃.extBut b o (hCf b hb) e
        obtain ⟨oI, heI, _⟩ := id hst₃.1
        obtain ⟨oC, heC, hoC⟩ := LCg.ns_obj hn₃
        have F₃ : Fr h₀ L h₃ m := (LCg.fr_but F' hk₂ hIL hI₀).change hs₃ hCL hC₀
        have off3 := off'.mem
        have N₂ : News h₀ L h₂ ((I + 1, oD) :: news') := LCg.news_but N' hk₂ fun p hp => by
          rcases List.mem_cons.mp hp with rfl | hp
          · exact Ne.symm hDI
          · exact (off3 p hp).1
        have N₃ : News h₀ L h₃ ((I, oI) :: (I + 2, oC) :: (I + 1, oD) :: news') := fun p hp => by
          rcases List.mem_cons.mp hp with rfl | hp
          · exact ⟨heI, Ne.symm hIL, hI₀⟩
          · rcases List.mem_cons.mp hp with rfl | hp
            · exact ⟨heC, hCL, hC₀⟩
            · have z := N₂ p hp
              refine ⟨hs₃.extBut _ _ ?_ z.1, z.2⟩
              rcases List.mem_cons.mp hp with rfl | hp
              · exact hDC
              · exact (off3 p hp).2.1
        obtain ⟨t, ht⟩ := hi.get i ((xs[i] : Nat) : Int) (by simp [natInts, hlt])
        have hv : v = .int (xs[i] : Nat) t := by
          have hP' : vs[i]? = some v := by simpa using hPv
          rw [ht] at hP'; exact (Option.some.inj hP').symm
        subst hv
        have hsplit : xs = xs.take i ++ xs[i] :: xs.drop (i + 1) := by rw [List.getElem_cons_drop, List.take_append_drop]
        have hdr : xs.drop i = xs[i] :: xs.drop (i + 1) := (List.getElem_cons_drop hlt).symm
        have hta : xs.take (i + 1) = xs.take i ++ [xs[i]] := by rw [List.take_succ_eq_append_getElem hlt]
        rw [hdr] at hJ'
        refine wpAny_mono (turn _ _ _ kvs oD news' t I oI (I + 2) oC (I + 1) _ h₃ _ _ hsplit hJ' hdD hoC (by simp) F₃ N₃ off' ⟨hCI, hDI, Ne.symm hDC⟩) (fun kv s₄ hv₄ => wpAny_mono hv₄ (fun y s₅ h₅ => ?_) (fun _ _ e => e)) (fun _ _ e => e)
        obtain ⟨h₄, tk₄, kk, kt, news₄, rfl, rfl, F₄, N₄, off₄, hS₄, R₄⟩ := h₅
        have zI := (N₄ (I, oI) List.mem_cons_self).1
        have zC := (N₄ (I + 2, oC) (List.mem_cons_of_mem _ List.mem_cons_self)).1
        have zD := (N₄ (I + 1, oD) (List.mem_cons_of_mem _ (List.mem_cons_of_mem _ List.mem_cons_self))).1
        have N₄' : News h₀ L h₄ news₄ := fun p hp => N₄ p (List.mem_cons_of_mem _ (List.mem_cons_of_mem _ (List.mem_cons_of_mem _ hp)))
        have hst₄ : h₄.IsListIter I ax (i + 1) ∧ h₄.IsList ax vs.toArray := LCg.list_st (i + 1) h₃ h₄ oI news₄ hst₃ heI zI F₄.keep N₄' hS₄
        refine wpAny_dictSet_pairs (knd := ik prog w) (intKind_is _ _ kk kt) (Heap.dictOf_iff.mpr ⟨oD, zD, hdD⟩) (fun h₆ hd₆ hs₆ => ?_) (by rw [sizeLine_eq]; omega)
        obtain ⟨oD', hoD', hdD'⟩ := Heap.dictOf_iff.mp hd₆
        have off4 := off₄.mem
        have hlen' := stored_length_le kvs kk y
        refine ⟨xs.length + 1 - (i + 1), Nat.sub_lt_sub_left (Nat.lt_succ_of_lt (by assumption)) (Nat.lt_succ_self i), h₆, _, i + 1, stored kvs kk y, oD', _, news₄, rfl, hlt, rfl, by omega, W.frame _ _ _ hst₄ fun b hb o e => hs₆.extBut b o (hDf b hb) e, F₄.change hs₆ hDL hD₀,
          (hoC.ns zC).sameBut hs₆ (Ne.symm hDC), fun p hp => ?_, hdD', off₄, hS₄, ?_⟩
        · rcases List.mem_cons.mp hp with rfl | hp
          · exact ⟨hoD', hDL, hD₀⟩
          · exact ⟨hs₆.extBut _ _ (off4 p hp).2.2 (N₄' p hp).1, (N₄' p hp).2⟩
        · rw [hta]; exact R₄
      · obtain rfl : i = xs.length := Nat.le_antisymm hi' (Nat.not_lt.mp hlt)
        refine W.done _ _ _ hst' fun h₂ tk₂ hk₂ => ?_
        have off3 := off'.mem
        rw [List.take_length, List.drop_length] at hJ'
        have F₂ : Fr h₀ L h₂ m := LCg.fr_but F' hk₂ hIL hI₀
        have N₂ : News h₀ L h₂ ((I + 1, oD) :: news') := LCg.news_but N' hk₂ fun p hp => by
          rcases List.mem_cons.mp hp with rfl | hp
          · exact Ne.symm hDI
          · exact (off3 p hp).1
        refine ⟨m', hn'.at' fun o e => hk₂ _ o (by simpa using Ne.symm hCI) e, fun h₄ hs₄ => ?_⟩
        refine fin (I + 1) oD kvs h₄ tk₂ news' hJ' (Nat.lt_succ_of_lt hLlt) hdD (F₂.change hs₄ hCL hC₀) (fun p hp => ?_) off'.one
        have z := N₂ p hp
        refine ⟨hs₄.extBut _ _ ?_ z.1, z.2⟩
        rcases List.mem_cons.mp hp with rfl | hp
        · exact hDC
        · exact (off3 p hp).2.1
    · rcases List.mem_cons.mp hp with rfl | hp
      · exact ⟨hoD₁, hDL, hD₀⟩
      · exact ⟨old _ _ (Nn p hp).1, (Nn p hp).2⟩
  rw [hD, hC]
  exact codeAny_compStart_dict (loop _ rfl) (W.self 0 _ _ _ hst₁ (loop _ rfl))
end
end Mine
end
section
open PySem PySem.W PySem.Calls PyProof.Rows
namespace Mine
/-! ## sorted(dict, key=f), the keys being tuples of ints -/
section
variable {prog : Program} {w : World} {A : Around} {E : Value → Shared → Prop} {s : Shared} {h₀ : Heap} {L a kS q : Addr} {m : Str → Option Value} {news : List (Addr × Obj)}
theorem lex_ints {Q : Bool → Shared → Prop} : ∀ {vs ws : List Value} {xs ys : List Int} (i k1 k2 : Nat) (s : Shared), IntsAre vs xs → IntsAre ws ys → k1 = i + xs.length → k2 = i + ys.length → Q (lexI xs ys) s → KatLex prog w A true (decide (k1 < k2)) Q (vs.zip ws) i s := by
  intro vs ws xs ys i k1 k2 s hi
  induction hi generalizing ws ys i with
  | nil =>
    intro hj e1 e2 h
    cases hj with
    | nil => refine kat_nil ?_; have : decide (k1 < k2) = false := by simp at e1 e2; simp; omega
             rw [this]; exact h
    | cons b t hj => refine kat_nil ?_; have : decide (k1 < k2) = true := by simp at e1 e2; simp; omega
                     rw [this]; exact h
  | cons x t hi ih =>
    intro hj e1 e2 h
    cases hj with
    | nil => refine kat_nil ?_; have : decide (k1 < k2) = false := by simp at e1 e2; simp; omega
             rw [this]; exact h
    | cons y t2 hj =>
      refine kat_cons (wpAny_eqBool_int ?_)
      by_cases hxy : x = y
      · subst hxy
        rw [beq_self_eq_true]
        simp only [lexI, if_true] at h
        refine kat_yes (ih (i + 1) hj (by simp at e1; omega) (by simp at e2; omega) h)
      · have : (x == y) = false := by simpa using hxy
        rw [this]
        simp only [lexI, if_neg hxy] at h
        refine kat_no ?_
        cases i with
        | zero => exact oneLt_int h
        | succ i => exact kat_one _ _ (lt_int h)
/-- the keys made so far: each a tuple of the ledger, the place of its node -/
inductive KRel (news : List (Addr × Obj)) (pl : Nat → List Int) : List Value → List Nat → Prop
  | nil : KRel news pl [] []
  | cons {fa : Addr} {vt : List Value} {y : Nat} {vs : List Value} {ys : List Nat} : (fa, tupObj vt) ∈ news → IntsAre vt (pl y) → KRel news pl vs ys → KRel news pl (.ref fa :: vs) (y :: ys)
theorem KRel.snoc {pl : Nat → List Int} {vs : List Value} {ys : List Nat} {fa : Addr} {vt : List Value} {y : Nat} (h : KRel news pl vs ys) (hm : (fa, tupObj vt) ∈ news) (hi : IntsAre vt (pl y)) : KRel news pl (vs ++ [.ref fa]) (ys ++ [y]) := by
  induction h with
  | nil => exact .cons hm hi .nil
  | cons a b _ ih => exact .cons a b ih
theorem KRel.len {pl : Nat → List Int} {vs : List Value} {ys : List Nat} (h : KRel news pl vs ys) : vs.length = ys.length := by
  induction h with
  | nil => rfl
  | cons _ _ _ ih => simp [ih]
theorem KRel.at {pl : Nat → List Int} {vs : List Value} {ys : List Nat} (h : KRel news pl vs ys) : ∀ i, i < ys.length → ∃ fa vt, vs.getD i Value.none = .ref fa ∧ (fa, tupObj vt) ∈ news ∧ IntsAre vt (pl (ys.getD i 0)) := by
  induction h with
  | nil => intro i hi; cases hi
  | cons hm hi _ ih =>
    intro i hlt
    cases i with
    | zero => exact ⟨_, _, rfl, hm, hi⟩
    | succ i => simpa using ih i (by simpa using hlt)
theorem KRel.tups {pl : Nat → List Int} {h : Heap} (N : News h₀ L h news) (hp : ∀ y, 0 < (pl y).length) {vs : List Value} {ys : List Nat} (r : KRel news pl vs ys) : ∃ fs, fs.length = ys.length ∧ KatTups h vs fs ∧ ∀ v ∈ fs, ∃ n t, v = .int n t := by
  induction r with
  | nil => exact ⟨[], rfl, .nil, by simp⟩
  | @cons fa vt y vs ys hm hi _ ih =>
    obtain ⟨fs, h1, h2, h3⟩ := ih
    have := hp y
    generalize pl y = l at hi this
    cases hi with
    | nil => simp at this
    | cons n t hi' =>
      refine ⟨.int n t :: fs, by simp [h1], .cons (xs := (Value.int n t :: _).toArray) (n := 0) (N.get hm) rfl rfl (by simp) h2, ?_⟩
      intro v hv
      rcases List.mem_cons.mp hv with rfl | hv
      · exact ⟨n, t, rfl⟩
      · exact h3 v hv
/-- what the key gives: a tuple of the ledger, all that stood stands -/
def KeyTurn (prog : Program) (w : World) (A : Around) (h₀ : Heap) (L : Addr) (m : Str → Option Value) (news : List (Addr × Obj)) (pl : Nat → List Int) (q : Addr) (ks : List Nat) (s : Shared) : Prop :=
  ∀ (y : Nat) (t : Tok) (h : Heap) (tk : Nat) (own : List (Addr × Obj)), y ∈ ks → Fr h₀ L h m → News h₀ L h (own ++ news) →
    wpAny (model prog w) A (call (.ref q) [.int (y : Nat) t]) (fun v s' => ∃ h' tk' fa vt, v = .ref fa ∧ s' = { s with heap := h', toks := tk' } ∧ Fr h₀ L h' m ∧ News h₀ L h' (own ++ news) ∧ (fa, tupObj vt) ∈ news ∧ IntsAre vt (pl y)) (fun _ _ => False) { s with heap := h, toks := tk }
theorem keys_all {pl : Nat → List Int} {ks : List Nat} {D : Addr} {e1 : Nat} {Fin : List Value → Nat → Shared → Prop} (hkD : kS ≠ D) (hkn : ∀ p ∈ news, p.1 ≠ kS) (turn : KeyTurn prog w A h₀ L m news pl q ks s)
    (fin : ∀ kacc e h tk, KRel news pl kacc ks → Fr h₀ L h m → News h₀ L h ((kS, seqObj "list" (List.toArray kacc) e) :: (D, seqObj "list" #[] e1) :: news) → Fin kacc e { s with heap := h, toks := tk }) :
    ∀ (rest done : List Nat) (vs kacc : List Value) (e : Nat) (h : Heap) (tk : Nat), ks = done ++ rest → IntsAre vs (natInts rest) → KRel news pl kacc done → Fr h₀ L h m → News h₀ L h ((kS, seqObj "list" (List.toArray kacc) e) :: (D, seqObj "list" #[] e1) :: news) →
      KatKeys prog w A h₀ L m kS (.ref q) Fin vs kacc e { s with heap := h, toks := tk } := by
  intro rest
  induction rest with
  | nil =>
    intro done vs kacc e h tk hk hi hr F N
    cases hi
    rw [List.append_nil] at hk
    subst hk
    exact KatKeys.nil (fin kacc e h tk hr F N)
  | cons y rest ih =>
    intro done vs kacc e h tk hk hi hr F N
    cases hi with
    | cons n t hi =>
      refine KatKeys.cons (wpAny_mono (turn y t h tk [(kS, seqObj "list" (List.toArray kacc) e), (D, seqObj "list" #[] e1)] (by rw [hk]; simp) F N) (fun v s' hv => ?_) fun _ _ x => x)
      obtain ⟨h', tk', fa, vt, rfl, rfl, F', N', hm, hi'⟩ := hv
      refine KatBack.intro F' N' (.head (fun p hp => ?_)) fun h'' c F'' N'' => ?_
      · rcases List.mem_cons.mp hp with rfl | hp
        · exact Ne.symm hkD
        · exact hkn p hp
      · exact ih (done ++ [y]) _ (kacc ++ [.ref fa]) c h'' tk' (by rw [hk]; simp) hi (hr.snoc hm hi') F'' N''
/-- the outcome: the keys of the dict in the order of their places -/
def OutOk (ks : List Nat) (pos : Nat → Nat) (out : List Nat) : Prop := out.Perm ks ∧ out.Pairwise fun x y => pos x < pos y
theorem outOk_of {ks : List Nat} {pos : Nat → Nat} {p : Array Nat} (hg : Gd ks.length p) (ha : Asc (fun i => pos (ks.getD i 0)) p ks.length) : OutOk ks pos (p.toList.map fun i => ks.getD i 0) := by
  constructor
  · have h1 : p.toList.Perm (List.range ks.length) := Array.perm_iff_toList_perm.mp hg.perm
    have h2 : (List.range ks.length).map (fun i => ks.getD i 0) = ks := by
      apply List.ext_getElem
      · simp
      · intro i h1 h2; simp at h1; simp [h2]
    exact (h1.map (fun i => ks.getD i 0)).trans (List.Perm.of_eq h2)
  · rw [List.pairwise_iff_getElem]
    intro i j hi hj hij
    simp only [List.length_map, Array.length_toList] at hi hj
    have := ha i j hij (by rw [← hg.size]; exact hj)
    unfold Vr at this
    simp only [List.getElem_map, Array.getElem_toList]
    simpa [Array.getD, hi, hj] using this
theorem kat_done {pl : Nat → List Int} {ks : List Nat} {pos : Nat → Nat} {D : Addr} {e1 : Nat} {vs : List Value} {Q : Shared → Prop} (hkD : kS ≠ D) (hkn : ∀ p ∈ news, p.1 ≠ kS) (hDn : ∀ p ∈ news, p.1 ≠ D) (hi : IntsAre vs (natInts ks)) (hp : ∀ y, 0 < (pl y).length) (h2 : 2 ≤ ks.length)
    (hlt : ∀ x ∈ ks, ∀ y ∈ ks, lexI (pl x) (pl y) = decide (pos x < pos y)) (hinj : ∀ i j, i < ks.length → j < ks.length → pos (ks.getD i 0) = pos (ks.getD j 0) → i = j)
    {kacc : List Value} {e : Nat} {h : Heap} {tk : Nat} (hr : KRel news pl kacc ks) (F : Fr h₀ L h m) (N : News h₀ L h ((kS, seqObj "list" (List.toArray kacc) e) :: (D, seqObj "list" #[] e1) :: news))
    (fin : ∀ h' tk' ws out c, Fr h₀ L h' m → News h₀ L h' ((D, listOf (List.toArray ws) c) :: news) → IntsAre ws (natInts out) → OutOk ks pos out → Q { s with heap := h', toks := tk' }) :
    wpAny (model prog w) A (keyKind' (List.toArray kacc)) (fun κ s'' => (kas_sort vs.length).kasWp (kas_ask prog w A κ (katRev false kacc)) (fun p s3 => KatFin h₀ L m kS D kacc e e1 (katRev false (p.toList.map fun i => (katRev false vs).getD i Value.none)) Q s3) s'') (fun _ _ => False) { s with heap := h, toks := tk } := by
  have hvl := hi.length
  rw [natInts_length] at hvl
  have Nn : News h₀ L h news := fun p hp => N p (.tail _ (.tail _ hp))
  obtain ⟨fs, hf1, hf2, hf3⟩ := hr.tups Nn hp
  refine kat_kind (T := .type "int") hf2 (by omega) (fun v hv => ?_) (by decide) ?_
  · obtain ⟨n, t, rfl⟩ := hf3 v hv
    exact .now
  · have hT : (Value.type "int" != Value.type "tuple") = true := by decide
    rw [hT]
    refine Snd.wp (n := ks.length) (f := fun i => pos (ks.getD i 0)) (G := fun s' => s' = { s with heap := h, toks := tk }) (P := fun p => Gd ks.length p ∧ Asc (fun i => pos (ks.getD i 0)) p ks.length) ?_ ?_ _ _ rfl (by rw [hvl]; exact sort_snd hinj (by omega))
    · rintro i j C s' hi' hj' rfl hC
      obtain ⟨fa, vt, e1', hm1, hi1⟩ := hr.at i hi'
      obtain ⟨fb, vu, e2', hm2, hi2⟩ := hr.at j hj'
      show wpAny _ _ (keyLt' _ (kacc.getD i Value.none) (kacc.getD j Value.none)) C _ _
      rw [e1', e2']
      refine kat_lt (Nn.get hm1) rfl (Nn.get hm2) rfl ?_
      have a1 := hi1.length
      have a2 := hi2.length
      refine lex_ints 0 _ _ _ hi1 hi2 (by simp [a1]) (by simp [a2]) ?_
      rw [hlt _ (by simp [List.getD, hi']) _ (by simp [List.getD, hj'])]
      exact hC _ rfl
    · rintro p s' rfl ⟨hg, ha⟩
      refine KatFin.intro F N (.head (fun p hp => ?_)) fun h' c F' N' => KasFin.intro F' N' (.tail hkD (.head hDn)) fun h'' c' F'' N'' => ?_
      · rcases List.mem_cons.mp hp with rfl | hp
        · exact Ne.symm hkD
        · exact hkn p hp
      · refine fin h'' tk _ _ c' F'' (fun x hx => N'' x (.tail _ hx)) ?_ (outOk_of hg ha)
        show IntsAre (p.toList.map fun i => vs.getD i Value.none) _
        have hall : ∀ i ∈ p.toList, i < ks.length := by
          intro i hi'
          have : i ∈ (List.range ks.length) := (Array.perm_iff_toList_perm.mp hg.perm).mem_iff.mp hi'
          simpa using this
        generalize p.toList = l at hall
        induction l with
        | nil => exact .nil
        | cons x l ih =>
          have hx := hall x (.head _)
          obtain ⟨t, ht⟩ := hi.get x ((ks[x] : Nat) : Int) (by simp [natInts, hx])
          have : vs.getD x Value.none = .int ((ks.getD x 0 : Nat) : Int) t := by
            simp [List.getD, ht, hx]
          simp only [List.map_cons, natInts]
          rw [this]
          exact .cons _ _ (ih fun i hi => hall i (.tail _ hi))
end
end Mine
namespace Mine
section
variable {prog : Program} {w : World} {A : Around} {E : Value → Shared → Prop} {s : Shared} {h₀ : Heap} {L a kS q : Addr} {m : Str → Option Value} {news : List (Addr × Obj)}
/-- one item or none: the key is asked, nothing is compared -/
theorem small_rest {pl : Nat → List Int} {ks : List Nat} {D : Addr} {e1 : Nat} {vs : List Value} {P : PySem.Fin → Shared → Prop} {h : Heap} {tk : Nat} (hkD : kS ≠ D) (hkn : ∀ p ∈ news, p.1 ≠ kS) (hDn : ∀ p ∈ news, p.1 ≠ D) (turn : KeyTurn prog w A h₀ L m news pl q ks s) (hi : IntsAre vs (natInts ks)) (h2 : ks.length < 2)
    (F : Fr h₀ L h m) (N : News h₀ L h ((kS, seqObj "list" #[] 0) :: (D, seqObj "list" #[] e1) :: news))
    (fin : ∀ h' tk' c, Fr h₀ L h' m → News h₀ L h' ((D, listOf (List.toArray vs) c) :: news) → P (.done (.ret .none)) { s with heap := h', toks := tk' }) :
    wpAny (model prog w) A (ksk_rest D (.ref q) false vs.toArray e1 (.ref kS)) P E { s with heap := h, toks := tk } := by
  have hvl := hi.length
  rw [natInts_length] at hvl
  unfold ksk_rest
  refine wpAny_bind (wpAny_rule ?_)
  rw [List.forIn_toArray]
  refine wpAny_bind (wpAny_mono (kat_fold (prog := prog) (w := w) (A := A) (h₀ := h₀) (L := L) (m := m) (kS := kS) (f := .ref q) (n := ks.length) (by omega)
    (Fin := fun kacc e s' => ∃ h tk, s' = { s with heap := h, toks := tk } ∧ kacc.length = ks.length ∧ Fr h₀ L h m ∧ News h₀ L h ((kS, seqObj "list" (List.toArray kacc) e) :: (D, seqObj "list" #[] e1) :: news)) (fun x kacc e s' C hz hx => ?_) vs [] 0 _ (by simp [hvl]) (N.get (.head _))
      (keys_all hkD hkn turn (fun kacc e h tk hr F N => ⟨h, tk, rfl, hr.len, F, N⟩) ks [] vs [] 0 h tk rfl hi .nil F N)) (fun _ s' hd => ?_) fun _ _ x => x)
  · refine wpAny_bind (wpAny_attempt (wpAny_mono hx (fun k s'' hk => ?_) fun _ _ hF => hF.elim))
    obtain ⟨news', g, F', N', U, c⟩ := hk
    obtain ⟨pre, post, e0, hg, x1, x2⟩ := U.split
    rw [e0] at N'
    have nk := N' (kS, seqObj "list" (List.toArray kacc) e) (List.mem_append_right _ (.head _))
    have s1 := Heap.SameBut.update s''.heap kS (Obj.mapSeq (·.push k))
    have ea : (List.toArray kacc).push k = List.toArray (kacc ++ [k]) := by simp
    obtain ⟨c2, hc2⟩ : ∃ c2, (s''.heap.update kS (Obj.mapSeq (·.push k))).get? kS = some (seqObj "list" (List.toArray (kacc ++ [k])) c2) := ⟨_, by rw [← ea]; exact get?_update_seq nk.1 (·.push k)⟩
    try dsimp only
    refine wpAny_bind (listUpdate_at nk.1 rfl ?_ (by rw [List.size_toArray, sizeLine_eq]; omega) (Nat.le_trans (Nat.le_of_eq (Array.size_push ..)) (by rw [List.size_toArray, sizeLine_eq]; omega)))
    exact wpAny_pure ⟨rfl, k, c2, hc2, c _ c2 (kas_fr F' s1 nk.2.1 nk.2.2) (by rw [hg]; exact news_set N' x1 x2 s1 hc2)⟩
  · obtain ⟨kacc, e, hk', hl, h3, tk3, rfl, hkl, F3, N3⟩ := hd
    try dsimp only
    refine wpAny_bind (listItems_at hk' rfl ?_)
    have hn2 : vs.toArray.size < 2 := by rw [List.size_toArray]; omega
    unfold ksk_end
    try dsimp only
    rw [if_neg (by decide), if_pos hn2, if_pos hn2]
    refine wpAny_bind (wpAny_pure ?_)
    rw [StateT.run_pure]
    refine wpAny_bind (wpAny_pure ?_)
    try dsimp only
    rw [if_neg (by decide)]
    refine kat_tail (ks := kacc) (e := e) (h₀ := h₀) (L := L) (m := m) (out := vs) (st := SortSt.mk' general' ((List.toArray kacc).zip vs.toArray) #[] 7 none) ?_ (by omega) (by omega) rfl ?_
    · show ((List.toArray kacc).zip vs.toArray).map (·.2) = _
      apply Array.ext'
      rw [Array.toList_map, Array.toList_zip]
      simp only [List.toList_toArray]
      rw [List.map_snd_zip]
      omega
    · refine KatFin.intro F3 N3 (.head (fun p hp => ?_)) fun h' c F' N' => KasFin.intro F' N' (.tail hkD (.head hDn)) fun h'' c' F'' N'' => ?_
      · rcases List.mem_cons.mp hp with rfl | hp
        · exact Ne.symm hkD
        · exact hkn p hp
      · exact fin h'' _ c' F'' fun x hx => N'' x (.tail _ hx)
/-- sorted(d, key=q): d a dict of ints in the ledger -/
theorem sorted_known {d : Addr} {oD : Obj} {kvs : List (Int × Value)} {ks : List Nat} {pl : Nat → List Int} {pos : Nat → Nat} {Q : Value → Shared → Prop} (hh : A.handled = none) (F : Fr h₀ L s.heap m) (N : News h₀ L s.heap news) (hd : (d, oD) ∈ news) (hdo : oD.IsDictOf (ik prog w) kvs) (lo : (d == sysModules) = false) (hk : kvs.map (·.1) = natInts ks) (h64 : ks.length < 64)
    (hp : ∀ y, 0 < (pl y).length) (hlt : ∀ x ∈ ks, ∀ y ∈ ks, lexI (pl x) (pl y) = decide (pos x < pos y)) (hinj : ∀ x ∈ ks, ∀ y ∈ ks, pos x = pos y → x = y)
    (turn : KeyTurn prog w A.in1.in1 h₀ L m news pl q ks s)
    (h : ∀ D h' tk vs out c, Fr h₀ L h' m → News h₀ L h' ((D, listOf (List.toArray vs) c) :: news) → (∀ p ∈ news, p.1 ≠ D) → IntsAre vs (natInts out) → OutOk ks pos out → Q (.ref D) { s with heap := h', toks := tk }) :
    wpAny (model prog w) A (call (.builtin "sorted") [.ref d] [(Str.ofString "key", .ref q)]) Q E s := by
  have hkl : kvs.length = ks.length := by have := congrArg List.length hk; rwa [List.length_map, natInts_length] at this
  obtain ⟨ep, hat⟩ := (show s.heap.DictOf (ik prog w) d kvs from Heap.dictOf_iff.mpr ⟨oD, (N _ hd).1, hdo⟩).dictAt
  have hnd : ks.Nodup := by
    have := hat.nodup
    rw [hk] at this
    exact (List.pairwise_map.mp this).imp fun h e => h (by rw [e])
  refine call_function_entry_kw kind_sorted plain_sorted entry_sorted (ksk_s1 _ _) ?_
  unfold Builtin.«sorted»
  refine wpAny_bind (m := checkCount "sorted" 1 1 _) (wpAny_pure ?_)
  refine wpAny_bind (kdu_collect (A := A.in1) (kdl_dict (knd := ik prog w) (kvs := kvs) (ep := ep) lo) hh hat (by rw [sizeLine_eq]; omega) fun h' tk acc hk' hacc => ?_)
  have hvi : IntsAre acc.toList (natInts ks) := by
    have hl : acc.toList.length = ks.length := by rw [Array.length_toList, hacc.1, hkl]
    have hat' : ∀ (j : Nat) (hj : j < ks.length), ∃ t, acc.toList[j]? = some (.int ((ks[j] : Nat) : Int) t) := by
      intro j hj
      obtain ⟨v, hv⟩ : ∃ v, acc[j]? = some v := ⟨acc[j]'(by rw [← Array.length_toList, hl]; exact hj), by simp [show j < acc.size by rw [← Array.length_toList, hl]; exact hj]⟩
      obtain ⟨k, x, hkx, hkk⟩ := hacc.2 j v hv
      have hkj : k = ((ks[j] : Nat) : Int) := by
        have := congrArg (fun l => l[j]?) hk
        simp only [List.getElem?_map, hkx, natInts, Option.map_some, List.getElem?_eq_getElem hj] at this
        exact Option.some.inj this
      subst hkj
      obtain ⟨t, rfl⟩ : ∃ t, v = .int ((ks[j] : Nat) : Int) t := by
        cases v <;> simp [ik, PySem.intKind, Value.isInt] at hkk
        case int n t => exact ⟨t, by rw [hkk]⟩
      exact ⟨t, by rw [Array.getElem?_toList]; exact hv⟩
    generalize acc.toList = l at hl hat'
    clear hp hlt hinj turn h hkl hk h64 hnd
    induction ks generalizing l with
    | nil => cases l with
      | nil => exact .nil
      | cons a b => simp at hl
    | cons y ks ih =>
      cases l with
      | nil => simp at hl
      | cons a l =>
        obtain ⟨t, ht⟩ := hat' 0 (by simp)
        simp at ht
        subst ht
        exact .cons _ _ (ih l (by simpa using hl) fun j hj => by
          have := hat' (j + 1) (by simpa using hj)
          simp only [List.getElem?_cons_succ, List.getElem_cons_succ] at this
          exact this)
  have hvl := hvi.length
  rw [natInts_length] at hvl
  refine wpAny_bind (wpAny_newList ?_ (by rw [sizeLine_eq]; omega))
  have hk2 : ∀ b o, s.heap.get? b = some o → (h'.push (seqObj "list" acc.toList.toArray 0)).get? b = some o := fun b o e => Heap.get?_push_of_some _ (hk' b o e)
  have hoL : (h'.push (seqObj "list" acc.toList.toArray 0)).get? h'.objs.size = some (seqObj "list" acc.toList.toArray 0) := Heap.get?_push_size _ rfl
  have hLs : L < h'.objs.size := (F.keeps hk').ns.lt
  have hnD : ∀ p ∈ news, p.1 ≠ h'.objs.size := fun p hp => Nat.ne_of_lt (Heap.lt_size (hk' _ _ (N p hp).1))
  refine wpAny_bind (wpAny_holding (wpAny_call_entry_kw slot_list_sort ⟨_, hoL, rfl⟩ entry_list_sort ?body (ksk_l1 _ _)))
  case body =>
    show wpAny (model prog w) A.in1.in1 (Builtin.«list.sort» ⟨[.ref h'.objs.size], _⟩) _ _ { s with heap := h'.push (seqObj "list" acc.toList.toArray 0), toks := tk }
    rw [ksk_t1]
    have hD0 : h₀.get? h'.objs.size = none := Heap.get?_none_of_le (Nat.le_trans F.above (Nat.le_of_lt hLs))
    have F1 := F.keeps hk2
    have N1 : News h₀ L (h'.push (seqObj "list" acc.toList.toArray 0)) news := fun p hp => ⟨hk2 _ _ (N p hp).1, (N p hp).2⟩
    have fin' : ∀ h5 tk5 ws out c, Fr h₀ L h5 m → News h₀ L h5 ((h'.objs.size, listOf (List.toArray ws) c) :: news) → IntsAre ws (natInts out) → OutOk ks pos out → Q (.ref h'.objs.size) { s with heap := h5, toks := tk5 } :=
      fun h5 tk5 ws out c F5 N5 i5 o5 => h _ h5 tk5 ws out c F5 N5 hnD i5 o5
    have step : ∀ (P : PySem.Fin → Shared → Prop), (∀ h5 tk5 ws out c, Fr h₀ L h5 m → News h₀ L h5 ((h'.objs.size, listOf (List.toArray ws) c) :: news) → IntsAre ws (natInts out) → OutOk ks pos out → P (.done (.ret .none)) { s with heap := h5, toks := tk5 }) →
        wpAny (model prog w) A.in1.in1 (ksk_tree h'.objs.size (.ref q) false) P (fun e s' => E e s') { s with heap := h'.push (seqObj "list" acc.toList.toArray 0), toks := tk } := by
      intro P hP
      have s1 := Heap.SameBut.update (h'.push (seqObj "list" acc.toList.toArray 0)) h'.objs.size (Obj.mapSeq fun _ => (#[] : Array Value))
      obtain ⟨e1, ho1⟩ : ∃ e1, ((h'.push (seqObj "list" acc.toList.toArray 0)).update h'.objs.size (Obj.mapSeq fun _ => (#[] : Array Value))).get? h'.objs.size = some (seqObj "list" #[] e1) := ⟨_, get?_update_seq hoL fun _ => #[]⟩
      have F2 := kas_fr F1 s1 (Nat.ne_of_gt hLs) hD0
      have N2 := kas_news N1 s1 hnD
      generalize hh2 : (h'.push (seqObj "list" acc.toList.toArray 0)).update h'.objs.size (Obj.mapSeq fun _ => (#[] : Array Value)) = H2 at *
      have hsz2 : H2.objs.size = h'.objs.size + 1 := by rw [← hh2, Heap.size_update, size_push']
      have hkS : (H2.push (seqObj "tuple" acc.toList.toArray 0)).objs.size = h'.objs.size + 2 := by rw [size_push', hsz2]
      unfold ksk_tree
      refine wpAny_bind (listItems_at hoL rfl ?_)
      refine wpAny_bind (listUpdate_at hoL rfl ?_ (by rw [List.size_toArray, sizeLine_eq]; omega) (Nat.zero_le _))
      rw [show (({ s with heap := h'.push (seqObj "list" acc.toList.toArray 0), toks := tk } : Shared).heap.update h'.objs.size (Obj.mapSeq fun _ => #[])) = H2 from hh2]
      refine wpAny_bind (seqEpoch_at ho1 rfl ?_)
      refine wpAny_bind (wpAny_newTuple ?_ (by show acc.toList.length ≤ _; rw [sizeLine_eq]; omega))
      refine wpAny_bind (wpAny_newList ?_ (Nat.zero_le _))
      refine wpAny_holding ?_
      have F3 : Fr h₀ L ((H2.push (seqObj "tuple" acc.toList.toArray 0)).push (seqObj "list" #[] 0)) m := (F2.push _).push _
      have hkne : ∀ b, b < h'.objs.size + 2 → b ≠ h'.objs.size + 2 := fun b hb => Nat.ne_of_lt hb
      have N3 : News h₀ L ((H2.push (seqObj "tuple" acc.toList.toArray 0)).push (seqObj "list" #[] 0)) (((h'.objs.size + 2 : Nat), seqObj "list" #[] 0) :: (h'.objs.size, seqObj "list" #[] e1) :: news) := fun p hp => by
        rcases List.mem_cons.mp hp with rfl | hp
        · refine ⟨?_, Nat.ne_of_gt (Nat.lt_succ_of_lt (Nat.lt_succ_of_lt hLs)), Heap.get?_none_of_le (Nat.le_trans F.above (Nat.le_of_lt (Nat.lt_succ_of_lt (Nat.lt_succ_of_lt hLs))))⟩
          rw [← hkS]; exact Heap.get?_push_size _ rfl
        · rcases List.mem_cons.mp hp with rfl | hp
          · exact ⟨Heap.get?_push_of_some _ (Heap.get?_push_of_some _ ho1), Nat.ne_of_gt hLs, hD0⟩
          · exact ⟨Heap.get?_push_of_some _ (Heap.get?_push_of_some _ (N2 p hp).1), (N2 p hp).2⟩
      have hkD : ((h'.objs.size + 2 : Nat) : Addr) ≠ h'.objs.size := Nat.ne_of_gt (Nat.lt_succ_of_lt (Nat.lt_succ_self _))
      have hkn : ∀ p ∈ news, p.1 ≠ h'.objs.size + 2 := fun p hp => Nat.ne_of_lt (Nat.lt_succ_of_lt (Nat.lt_succ_of_lt (Heap.lt_size (hk' _ _ (N p hp).1))))
      have turn' : KeyTurn prog w A.in1.in1 h₀ L m news pl q ks { s with toks := tk } := turn
      show wpAny _ _ (ksk_rest _ _ _ _ _ (.ref (H2.push (seqObj "tuple" acc.toList.toArray 0)).objs.size)) _ _ { s with heap := (H2.push (seqObj "tuple" acc.toList.toArray 0)).push (seqObj "list" #[] 0), toks := tk }
      rw [hkS]
      by_cases h2 : ks.length < 2
      · refine small_rest (s := s) hkD hkn hnD turn hvi h2 F3 N3 fun h5 tk5 c F5 N5 => hP h5 tk5 _ ks c F5 N5 hvi ⟨.refl _, ?_⟩
        cases ks with
        | nil => exact .nil
        | cons a r => cases r with
          | nil => exact List.pairwise_singleton _ _
          | cons b r => simp at h2; omega
      · refine kat_rest (h₀ := h₀) (L := L) (m := m) (N3.get (.head _)) (by omega) (by omega) ?_
        refine keys_all (s := s) hkD hkn turn (fun kacc e h5 tk5 hr F5 N5 => ?_) ks [] _ [] 0 _ tk rfl hvi .nil F3 N3
        refine kat_done hkD hkn hnD hvi hp (by omega) hlt (fun i j hi hj e => ?_) hr F5 N5 fun h6 tk6 ws out c F6 N6 i6 o6 => hP h6 tk6 ws out c F6 N6 i6 o6
        have e' := hinj (ks.getD i 0) (by simp [List.getD, hi]) (ks.getD j 0) (by simp [List.getD, hj]) e
        simp only [List.getD, List.getElem?_eq_getElem hi, List.getElem?_eq_getElem hj, Option.getD_some] at e'
        rcases Nat.lt_trichotomy i j with h | h | h
        · exact absurd e' (List.pairwise_iff_getElem.mp hnd i j hi hj h)
        · exact h
        · exact absurd e'.symm (List.pairwise_iff_getElem.mp hnd j i hj hi h)
    refine step _ fun h5 tk5 ws out c F5 N5 i5 o5 => ⟨_, rfl, ?_⟩
    exact wpAny_pure ⟨_, rfl, fin' h5 tk5 ws out c F5 N5 i5 o5⟩
end
end Mine
end
section
open PySem PySem.W PySem.Calls PyProof.Rows
namespace Mine
/-! ## defs that change what stood: foot is what they may change -/
def Muts (prog : Program) (w : World) (loose : List Str) (mean : ExcName → Option Value) (mg mb : Str → Option Value) (f : Addr) (vs : List Value) (d u : Nat) (foot : List Addr) (pre : Heap → Prop) (post : Heap → Value → Heap → Prop) : Prop :=
  ∀ (A : Around) (s : Shared) (Q E : Value → Shared → Prop), AOk A d u → Top topProg loose mean mg mb (hideAll s.heap foot) → (Mine.hd.heap_39 w.params).In (hideAll s.heap foot) → pre s.heap →
    (∀ v h' tk', Mod foot s.heap h' → post s.heap v h' → Q v { s with heap := h', toks := tk' }) → wpAny (model prog w) A (call (.ref f) vs) Q E s
def OffB (h₀ : Heap) (L : Addr) (foot : List Addr) : Prop := ∀ a ∈ foot, h₀.get? a = none ∧ a ≠ L
section
variable {prog : Program} {w : World} {loose : List Str} {mean : ExcName → Option Value} {mg mb : Str → Option Value} {A : Around} {E : Value → Shared → Prop} {s : Shared} {h₀ : Heap} {L : Addr} {m : Str → Option Value} {news : List (Addr × Obj)} {foot : List Addr}
theorem fr_mod {h h' : Heap} (F : Fr h₀ L h m) (e : Mod foot h h') (off : OffB h₀ L foot) : Fr h₀ L h' m :=
  ⟨F.ns.at' fun o x => e L o x fun q => (off L q).2 rfl, fun b o x => e b o (F.keep b o x) (fun q => by rw [(off b q).1] at x; cases x), F.above⟩
theorem news_mod {h h' : Heap} (N : News h₀ L h news) (e : Mod foot h h') (hn : ∀ p ∈ news, p.1 ∉ foot) : News h₀ L h' news :=
  fun p hp => ⟨e _ _ (N p hp).1 (hn p hp), (N p hp).2⟩
theorem base_hid {h : Heap} (F : Fr h₀ L h m) (off : OffB h₀ L foot) : ∀ b o, h₀.get? b = some o → (hideAll h foot).get? b = some o :=
  fun b o x => hideAll_get _ (F.keep b o x) fun q => by rw [(off b q).1] at x; cases x
theorem Muts.use {f : Addr} {vs : List Value} {d u : Nat} {pre : Heap → Prop} {post : Heap → Value → Heap → Prop} {Q : Value → Shared → Prop} (S : Muts prog w loose mean mg mb f vs d u foot pre post)
    (F : Fr h₀ L s.heap m) (N : News h₀ L s.heap news) (X : (Mine.hd.heap_39 w.params).In h₀) (T : Top topProg loose mean mg mb h₀) (off : OffB h₀ L foot) (hn : ∀ p ∈ news, p.1 ∉ foot) (hA : AOk A d u) (hp : pre s.heap)
    (k : ∀ v h' tk', Fr h₀ L h' m → News h₀ L h' news → Mod foot s.heap h' → post s.heap v h' → Q v { s with heap := h', toks := tk' }) : wpAny (model prog w) A (call (.ref f) vs) Q E s :=
  S A s Q E hA (T.keeps (base_hid F off)) (X.keeps (base_hid F off)) hp fun v h' tk' e hv => k v h' tk' (fr_mod F e off) (news_mod N e hn) e hv
/-- on the way in: the frame and the ledger over what is left when the foot is hidden -/
theorem hid_fr {h : Heap} (F : Fr h₀ L h m) : Fr (hideAll h₀ foot) L h m := ⟨F.ns, fun b o e => F.keep b o (of_hideAll _ e), Nat.le_trans (Nat.le_of_eq (hideAll_size _ _)) F.above⟩
theorem hid_news {h : Heap} (N : News h₀ L h news) : News (hideAll h₀ foot) L h news := fun p hp => ⟨(N p hp).1, (N p hp).2.1, by
  cases q : (hideAll h₀ foot).get? p.1 with
  | none => rfl
  | some o => have := of_hideAll _ q; rw [(N p hp).2.2] at this; cases this⟩
theorem hid_off {h : Heap} (F : Fr h₀ L h m) (hl : ∀ a ∈ foot, ∃ o, h₀.get? a = some o) : OffB (hideAll h₀ foot) L foot := fun a ha => ⟨hideAll_none _ ha, fun q => by
  obtain ⟨o, ho⟩ := hl a ha
  have := Heap.lt_size ho
  rw [q] at this
  exact absurd F.above (Nat.not_le.mpr this)⟩
theorem off_news {h : Heap} {a : Addr} {o : Obj} (N : News h₀ L h news) (off : OffB h₀ L foot) (ha : a ∈ foot) (hg : h.get? a = some o) : News h₀ L h ((a, o) :: news) := fun p hp => by
  rcases List.mem_cons.mp hp with rfl | hp
  · exact ⟨hg, (off a ha).2, (off a ha).1⟩
  · exact N p hp
theorem ret_mod {h₁ : Heap} {L : Addr} {s : Shared} {m : Str → Option Value} (F : Fr (hideAll s.heap foot) L h₁ m) : Mod foot s.heap h₁ := fun a o e ha => F.keep a o (hideAll_get _ e ha)
end
end Mine
namespace Mine
section
variable {prog : Program} {w : World} {loose : List Str} {mean : ExcName → Option Value} {mg mb : Str → Option Value} {A : Around} {E : Value → Shared → Prop} {s : Shared} {h₀ : Heap} {L : Addr} {m : Str → Option Value} {news : List (Addr × Obj)} {p : Program}
theorem stored_mem {kvs : List (Int × Value)} {k : Int} {v : Value} : ∀ x ∈ stored kvs k v, x = (k, v) ∨ x ∈ kvs := by
  intro x hx
  unfold stored at hx
  split at hx
  · obtain ⟨y, hy, rfl⟩ := List.mem_map.mp hx
    by_cases e : y.1 = k
    · rw [if_pos e]; left; rw [← e]
    · rw [if_neg e]; exact .inr hy
  · rcases List.mem_append.mp hx with h | h
    · exact .inr h
    · exact .inl (List.mem_singleton.mp h)
theorem stored_keys {kvs : List (Int × Value)} {k : Int} {v : Value} : (stored kvs k v).map (·.1) = if k ∈ kvs.map (·.1) then kvs.map (·.1) else kvs.map (·.1) ++ [k] := by
  unfold stored
  have he : (kvs.any (fun kv => decide (kv.1 = k)) = true) ↔ k ∈ kvs.map (·.1) := by
    simp only [List.any_eq_true, decide_eq_true_eq, List.mem_map]
  by_cases h : k ∈ kvs.map (·.1)
  · rw [if_pos h, if_pos (he.mpr h), List.map_map]
    apply List.map_congr_left
    intro x _
    show (if x.1 = k then (x.1, v) else x).1 = x.1
    split <;> rfl
  · rw [if_neg h, if_neg (fun q => h (he.mp q))]; simp
theorem stored_val {kvs : List (Int × Value)} {k : Int} (h : k ∈ kvs.map (·.1)) : ∃ v, valueAt kvs k = some v ∧ (k, v) ∈ kvs := by
  obtain ⟨x, hx, rfl⟩ := List.mem_map.mp h
  unfold valueAt
  cases hf : kvs.find? fun kv => decide (kv.1 = x.1) with
  | none => exact absurd (List.find?_eq_none.mp hf x hx) (by simp)
  | some y =>
    have h1 := List.find?_some hf
    have h2 := List.mem_of_find?_eq_some hf
    simp at h1
    exact ⟨y.2, rfl, by rw [← h1]; exact h2⟩
theorem item_known {value slice : PySem.Expr} {d : Addr} {oD : Obj} {kvs : List (Int × Value)} {k : Int} {t : Tok} {v : Value} {Q : Value → Shared → Prop} (hg : s.heap.get? d = some oD) (hd : oD.IsDictOf (ik prog w) kvs) (hv : valueAt kvs k = some v) (h : Q v { s with toks := s.toks + 1 })
    (hs : subscripted slice false (.ref d) (.int k t) = operate [.ref d, .int k t] (getItem (.ref d) (.int k t)) := by with_unfolding_all rfl) :
    wpAny (model prog w) A (subscriptTail value slice (.ref d) (.int k t)) Q E s := by
  have hD : s.heap.DictOf (ik prog w) d kvs := Heap.dictOf_iff.mpr ⟨oD, hg, hd⟩
  exact tail_any hD.typeIs slot_dict_getitem.lookup (wpAny_getItem_of (intKind_is _ _ k t) hD.mapOf hv h) hs
/-- a lambda of one name, its body walked in its own frame -/
theorem enterLam {Q : Value → Shared → Prop} {name qual : Str} {params : Arguments} {body : PySem.Expr} {scope : Scope} {cl : List (Str × Addr)} {pm ctv : Value} {c' f : Addr} {vs : List Value} (binds : List (Str × Value))
    (F : Fr h₀ L s.heap m) (N : News h₀ L s.heap news) (T : Top p loose mean mg mb h₀) (ho : (f, kla_obj name qual params body scope cl pm c' ctv) ∈ news) (hcd : s.heap.CodeRec (.ref c') qual) {d u : Nat} (hA : AOk A (d + 1) (u + 3))
    (hbind : bindArgs (kla_fn name qual params body scope cl pm (.ref c') ctv) ⟨vs, []⟩ = pure binds) (hloc : ∀ y ∈ binds, scope.names.lookup y.1 = some .local)
    (h : ∀ L' h₁, Fr s.heap L' h₁ (fun y => binds.reverse.lookup y) → AOk (A.deeper (envX qual scope L' f (.ref c') cl)) d u →
      wpAny (model prog w) (A.deeper (envX qual scope L' f (.ref c') cl)) (eval body (envX qual scope L' f (.ref c') cl)) (fun v s' => Q v s') (fun _ _ => False) { s with heap := h₁, toks := s.toks + binds.length })
    (hco : scope.isCoroutine = false) (hgen : scope.isGenerator = false) (hk : scope.kind = .function)
    (hcell : ∀ x ∈ scope.names, x.2 ≠ .cell) : wpAny (model prog w) A (call (.ref f) vs) Q E s := by
  refine wpAny_call (kla_callFunE hA.room (N _ ho).1 rfl hco hgen rfl hcd ?_)
  rw [hbind]
  refine wpAny_pure (wpAny_newFunctionEnv hcell hloc (fun h₁ hns hsb => ⟨((T.nolimit).keeps F.keep).fresh _ hsb, ?_⟩) hk)
  have hk₁ : ∀ b o, s.heap.get? b = some o → h₁.get? b = some o := fun b o e => hsb.extBut b o (Nat.ne_of_lt (Heap.lt_size e)) (Heap.get?_push_of_some _ e)
  exact kla_codeExpr (wpAny_mono (h s.heap.objs.size h₁ ⟨hns, hk₁, Nat.le_refl _⟩ hA.deep) (fun _ _ x => x) fun _ _ x => x.elim)
end
end Mine
namespace Mine
section
variable {M : Model} {A : Around} {E : Value → Shared → Prop} {s : Shared} {h₀ : Heap} {L a c P : Addr} {m mg mb : Str → Option Value} {cn : Str} {cs : Scope} {ccd : Value} {cl : List (Str × Addr)} {news : List (Addr × Obj)} {g : Obj → List (Addr × Obj)}
  {p : Program} {loose : List Str} {mean : ExcName → Option Value} {name qual : Str} {params : Arguments} {body : PySem.Expr} {scope : Scope} {ps : Array Value} {pos : Pos} {firstLine : Nat} {clos : List (Str × Addr)}
/-- the table of a code object in which one lambda may stand -/
def LamTabAt (line col : Nat) (qual : Str) (h : Heap) (ps : Array Value) : Prop := ps = #[] ∨ ∃ c' oc vs t, ps = #[rawInt line, rawInt col, .ref c'] ∧ h.get? c' = some oc ∧ oc.data = .fields vs ∧ vs[1]? = some (.str qual t)
theorem lam_any {Q : Value → Shared → Prop} (F : Fr h₀ L s.heap m) (N : News h₀ L s.heap news) (T : Top p loose mean mg mb h₀) (C : CodeHd h₀ c P) (hcd : ccd = .ref c) (U : UpdF P (tabObj ps) news g) (hl : LamTabAt pos.line pos.col qual h₀ ps)
    (hcl : closureFor scope (envX cn cs L a ccd cl) = pure clos)
    (h : ∀ f c' oc vs t ctv h' tk extra ps', Fr h₀ L h' m → News h₀ L h' ((f, kla_obj name qual params body scope clos ((mg "__name__").getD .none) c' ctv) :: (extra ++ g (tabObj ps'))) →
      ps' = #[rawInt pos.line, rawInt pos.col, .ref c'] → oc.data = .fields vs → vs[1]? = some (.str qual t) → ((c', oc) ∈ extra ∨ h₀.get? c' = some oc) → (∀ q ∈ extra, ∀ r ∈ news, q.1 ≠ r.1) → (∀ r ∈ news, r.1 ≠ f) → Q (.ref f) { s with heap := h', toks := tk }) :
    wpAny M A (makeFunction name qual params (.expr body) scope (envX cn cs L a ccd cl) [] [] [] pos firstLine) Q E s := by
  obtain ⟨pre, post, hnews, hg, x1, x2⟩ := U.split
  rcases hl with rfl | ⟨c', oc, vs, t, rfl, hc, hd, hv⟩
  · refine kla_nest F N T C hcd U trivial rfl hcl fun f c' oc vs t ctv h' tk F' N' hd hv l1 l2 => ?_
    refine h f c' oc vs t ctv h' tk [(c', oc)] _ F' N' rfl hd hv (.inl (.head _)) (fun q hq r hr => ?_) (fun r hr => Nat.ne_of_lt (Nat.lt_trans (l1 r hr) l2))
    rw [List.mem_singleton.mp hq]
    exact Nat.ne_of_gt (l1 r hr)
  · refine kla_hit F N T C hcd (ps := #[rawInt pos.line, rawInt pos.col, .ref c']) (by rw [hnews]; exact List.mem_append_right _ (.head _)) (by exact True.intro) (c' := c') ?_ hcl fun f ctv h' tk F' N' l1 => ?_
    · show (if (pos.line : Int) == (pos.line : Int) && (pos.col : Int) == (pos.col : Int) then _ else _) = _
      simp
    · refine h f c' oc vs t ctv h' tk [] _ F' ?_ rfl hd hv (.inr hc) (by simp) (fun r hr => Nat.ne_of_lt (l1 r hr))
      rw [List.nil_append, hg, ← hnews]
      exact N'
end
end Mine
namespace Mine
theorem ldFreeX {M : Model} {A : Around} {E : Value → Shared → Prop} {s : Shared} {L a c : Addr} {cn : Str} {cs : Scope} {ccd : Value} {cl : List (Str × Addr)} {x : Str} {pos : Pos} {v : Value} {o : Obj} {Q : Value → Shared → Prop} (hc : cl.lookup x = some c) (hg : s.heap.get? c = some o) (hd : o.data = .cell (some v)) (h : Q v s)
    (hk : cs.kind = .function := by rfl) (hx : (envX cn cs L a ccd cl).kindOf x = some .free := by rfl) (hb : (x == ("__debug__" : Str)) = false := by decide) (hn : (x == ("__classdict__" : Str)) = false := by decide) :
    wpAny M A (eval (.Name x pos) (envX cn cs L a ccd cl)) Q E s := wpAny_Name (wpAny_loadName_free hk hx hc ⟨o, hg, hd⟩ h hn) hb
end Mine
end
section
open PySem PySem.W PySem.Calls PyProof.Rows
namespace Mine
/-! ## dicts of texts -/
abbrev sk (prog : Program) (w : World) := PySem.strKind prog w
inductive SP : List (Str × Value) → List (Str × Str) → Prop
  | nil : SP [] []
  | cons (p u : Str) (t : Tok) {kvs : List (Str × Value)} {D : List (Str × Str)} : SP kvs D → SP ((p, .str u t) :: kvs) ((p, u) :: D)
def hasS (D : List (Str × Str)) (p : Str) : Bool := D.any fun x => decide (x.1 = p)
def putS (D : List (Str × Str)) (p u : Str) : List (Str × Str) := if hasS D p then D.map (fun x => if x.1 = p then (x.1, u) else x) else D ++ [(p, u)]
def delS (D : List (Str × Str)) (p : Str) : List (Str × Str) := D.filter fun x => !decide (x.1 = p)
def getS (D : List (Str × Str)) (p : Str) : Option Str := (D.find? fun x => decide (x.1 = p)).map (·.2)
def encS (D : List (Str × Str)) : List (PyData × PyData) := D.map fun x => (PyData.str x.1, PyData.str x.2)
theorem SP.len {kvs : List (Str × Value)} {D : List (Str × Str)} (h : SP kvs D) : kvs.length = D.length := by
  induction h with
  | nil => rfl
  | cons _ _ _ _ ih => simp [ih]
theorem SP.any {kvs : List (Str × Value)} {D : List (Str × Str)} (h : SP kvs D) (p : Str) : kvs.any (fun kv => decide (kv.1 = p)) = hasS D p := by
  induction h with
  | nil => rfl
  | cons _ _ _ _ ih => simp only [List.any_cons, hasS] at ih ⊢; rw [ih]
theorem SP.snoc {kvs : List (Str × Value)} {D : List (Str × Str)} (h : SP kvs D) (p u : Str) (t : Tok) : SP (kvs ++ [(p, .str u t)]) (D ++ [(p, u)]) := by
  induction h with
  | nil => exact .cons p u t .nil
  | cons a b c _ ih => exact .cons a b c ih
theorem SP.stored {kvs : List (Str × Value)} {D : List (Str × Str)} (h : SP kvs D) (p u : Str) (t : Tok) : SP (PySem.stored kvs p (.str u t)) (putS D p u) := by
  unfold PySem.stored putS
  rw [h.any]
  by_cases e : hasS D p = true
  · rw [if_pos e, if_pos e]
    clear e
    induction h with
    | nil => exact .nil
    | cons a b c _ ih =>
      simp only [List.map_cons]
      by_cases e2 : a = p
      · rw [if_pos e2, if_pos e2]; exact .cons _ _ _ ih
      · rw [if_neg e2, if_neg e2]; exact .cons _ _ _ ih
  · rw [if_neg e, if_neg e]; exact h.snoc p u t
theorem SP.without {kvs : List (Str × Value)} {D : List (Str × Str)} (h : SP kvs D) (p : Str) : SP (kvs.filter fun kv => !decide (kv.1 = p)) (delS D p) := by
  unfold delS
  induction h with
  | nil => exact .nil
  | cons a b c _ ih =>
    simp only [List.filter_cons]
    by_cases e : a = p
    · simp only [e, decide_true, Bool.not_true, Bool.false_eq_true, if_false]; exact ih
    · simp only [e, decide_false, Bool.not_false, if_true]; exact .cons _ _ _ ih
theorem SP.get {kvs : List (Str × Value)} {D : List (Str × Str)} (h : SP kvs D) (p : Str) : (getS D p = none ∧ valueAt kvs p = none) ∨ ∃ u t, getS D p = some u ∧ valueAt kvs p = some (.str u t) := by
  unfold getS valueAt
  induction h with
  | nil => exact .inl ⟨rfl, rfl⟩
  | cons a b c _ ih =>
    simp only [List.find?_cons]
    by_cases e : a = p
    · simp only [e, decide_true]; exact .inr ⟨b, c, rfl, rfl⟩
    · simp only [e, decide_false]; exact ih
theorem hasS_get (D : List (Str × Str)) (p : Str) : hasS D p = (getS D p).isSome := by
  unfold hasS getS
  induction D with
  | nil => rfl
  | cons a r ih =>
    simp only [List.any_cons, List.find?_cons]
    by_cases e : a.1 = p
    · simp [e]
    · simp only [e, decide_false, Bool.false_or]; exact ih
theorem SP.flat {kvs : List (Str × Value)} {D : List (Str × Str)} (h : SP kvs D) : PyProof.V.FlatPairs PyData.str kvs (encS D) := by
  induction h with
  | nil => exact .nil
  | cons a b c _ ih => exact .cons (.str _ _) ih
section
variable {prog : Program} {w : World} {A : Around} {E : Value → Shared → Prop} {s : Shared} {h₀ : Heap} {L d : Addr} {m : Str → Option Value} {news : List (Addr × Obj)} {g : Obj → List (Addr × Obj)} {o : Obj} {kvs : List (Str × Value)} {D : List (Str × Str)} {p u : Str} {tp tu : Tok}
theorem sd_set {Q : Unit → Shared → Prop} (F : Fr h₀ L s.heap m) (N : News h₀ L s.heap news) (U : UpdF d o news g) (hd : o.IsDictOf (sk prog w) kvs) (hf : SP kvs D) (hz : D.length ≤ 100000)
    (h : ∀ h' o' kvs', Fr h₀ L h' m → News h₀ L h' (g o') → o'.IsDictOf (sk prog w) kvs' → SP kvs' (putS D p u) → Q () { s with heap := h', toks := s.toks + 1 }) : wpAny (model prog w) A (setItem (.ref d) (.str p tp) (.str u tu)) Q E s :=
  setItem_K (k := p) (dv := PyData.str u) PyProof.V.same_str (strKind_is _ _ _ _) (.str _ _) F N U hd hf.flat (fun h' o' F' N' a _ => h h' o' _ F' N' a (hf.stored p u tu)) (by rw [encS, List.length_map, sizeLine_eq]; omega)
theorem sd_in {Q : Value → Shared → Prop} (hg : s.heap.get? d = some o) (hd : o.IsDictOf (sk prog w) kvs) (hf : SP kvs D) (lo : (d == sysModules) = false) (h : Q (.bool (hasS D p)) { s with toks := s.toks + 1 }) :
    wpAny (model prog w) A (compareOp .In (.str p tp) (.ref d)) Q E s := by
  refine wpAny_in_of (knd := sk prog w) (strKind_is _ _ p tp) lo (Heap.dictOf_iff.mpr ⟨o, hg, hd⟩ : s.heap.DictOf (sk prog w) d kvs).mapOf ?_
  rw [hasS_get] at h
  rcases hf.get p with ⟨h1, h2⟩ | ⟨u', t', h1, h2⟩
  · rw [h1] at h; rw [h2]; exact h
  · rw [h1] at h; rw [h2]; exact h
end
end Mine
namespace Mine
theorem SP.without' {kvs : List (Str × Value)} {D : List (Str × Str)} (h : SP kvs D) (p : Str) : SP (PySem.without kvs p) (delS D p) := by
  unfold PySem.without delS
  induction h with
  | nil => exact .nil
  | cons a b c _ ih =>
    simp only [List.filter_cons]
    by_cases e : a = p
    · simp only [e, ne_eq, not_true_eq_false, decide_false, decide_true, Bool.not_true, Bool.false_eq_true, if_false]; exact ih
    · simp only [e, ne_eq, not_false_eq_true, decide_true, decide_false, Bool.not_false, if_true]; exact .cons _ _ _ ih
theorem lookup_encS (D : List (Str × Str)) (p : Str) : PySem.Spec.lookup (PyData.str p) (encS D) = (getS D p).map PyData.str := by
  unfold encS getS
  induction D with
  | nil => rfl
  | cons a r ih =>
    simp only [List.map_cons, PySem.Spec.lookup, List.find?_cons, PyProof.V.same_str] at ih ⊢
    by_cases e : a.1 = p
    · simp [e]
    · simp only [e, decide_false]; simpa [eq_comm] using ih
section
variable {prog : Program} {w : World} {A : Around} {E : Value → Shared → Prop} {s : Shared} {h₀ : Heap} {L d : Addr} {m : Str → Option Value} {news : List (Addr × Obj)} {g : Obj → List (Addr × Obj)} {o : Obj} {kvs : List (Str × Value)} {D : List (Str × Str)} {p u : Str} {tp tu : Tok}
theorem sd_pop {Q : Value → Shared → Prop} (F : Fr h₀ L s.heap m) (N : News h₀ L s.heap news) (U : UpdF d o news g) (hd : o.IsDictOf (sk prog w) kvs) (hf : SP kvs D) (hz : D.length ≤ 100000) (hh : hasS D p = true)
    (h : ∀ h' o' kvs' v, Fr h₀ L h' m → News h₀ L h' (g o') → o'.IsDictOf (sk prog w) kvs' → SP kvs' (delS D p) → Q v { s with heap := h', toks := s.toks + 1 }) : wpAny (model prog w) A (call (.builtin "dict.pop") [.ref d, .str p tp]) Q E s := by
  rw [hasS_get] at hh
  obtain ⟨u, hu⟩ := Option.isSome_iff_exists.mp hh
  exact kt_pop_K (k := p) (dv := PyData.str u) (more := []) PyProof.V.same_str (strKind_is _ _ _ _) (.inl rfl) rfl (PySem.F.args_dict_pop_2 _ _) F N U hd hf.flat (by rw [lookup_encS, hu]; rfl) (fun h' o' v _ F' N' a _ => h h' o' _ v F' N' a (hf.without' p)) (by rw [encS, List.length_map, sizeLine_eq]; omega)
end
/-! ## what a line of nodes declares -/
def nsStep (T : List RowD) (D : List (Str × Str)) (j : Nat) : List (Str × Str) := if (rowOf T j).value = Str.ofString "" then (if hasS D (rowOf T j).name then delS D (rowOf T j).name else D) else putS D (rowOf T j).name (rowOf T j).value
def lineStep (T : List RowD) (D : List (Str × Str)) (a : Nat) : List (Str × Str) := (rowOf T a).nss.foldl (nsStep T) D
def xmlPair : List (Str × Str) := [(Str.ofString "xml", Str.ofString "http://www.w3.org/XML/1998/namespace")]
def scopeD (T : List RowD) (line : List Nat) : List (Str × Str) := line.foldl (lineStep T) xmlPair
theorem putS_len (D : List (Str × Str)) (p u : Str) : (putS D p u).length ≤ D.length + 1 := by
  unfold putS; split <;> simp
theorem nsStep_len (T : List RowD) (D : List (Str × Str)) (j : Nat) : (nsStep T D j).length ≤ D.length + 1 := by
  unfold nsStep
  split
  · split
    · exact Nat.le_succ_of_le (List.length_filter_le _ _)
    · exact Nat.le_succ _
  · exact putS_len _ _ _
end Mine
namespace Mine
theorem dict_cls {prog : Program} {w : World} {o : Obj} {kvs : List (Str × Value)} (h : o.IsDictOf (sk prog w) kvs) : o.cls = .type "dict" := by
  obtain ⟨_, _, h1, _⟩ := h
  exact h1.1
theorem mem_rowOf {T : List RowD} {i : Nat} {R : RowD} (h : T[i]? = some R) : rowOf T i = R := rowOf_eq h
end Mine
namespace Mine
def TurnEndA (I : Addr) (h₀ : Heap) (L : Addr) (own : List (Addr × Obj)) (J : (Str → Option Value) → List (Addr × Obj) → Prop) (s₁ : Shared) (Q : Flow → Shared → Prop) (f : Flow) (s₂ : Shared) : Prop :=
  match f with
  | .ret v => Q (.ret v) s₂
  | .brk => Q .next s₂
  | _ => ∃ h' tk m' all nx, s₂ = { s₁ with heap := h', toks := tk } ∧ Fr h₀ L h' m' ∧ News h₀ L h' all ∧ (∀ p ∈ own, p ∈ all) ∧ (∀ p ∈ nx, p ∈ all) ∧ (∀ p ∈ nx, p.1 ≠ I) ∧ J m' nx

section
variable {prog : Program} {w : World} {A : Around} {E : Value → Shared → Prop} {s : Shared} {env : Env} {h₀ : Heap} {x : Str} {body : List Stmt} {Q : Flow → Shared → Prop}
/-- over a list of ints that stands still: in the base, or in the ledger -/
theorem loop_listA {l : Addr} {vs : List Value} {c : Nat} {xs : List Nat} {m₀ : Str → Option Value} {all news : List (Addr × Obj)} (J : List Nat → List Nat → (Str → Option Value) → List (Addr × Obj) → Prop)
    (hh : A.handled = none) (hl : s.heap.get? l = some (listOf vs.toArray c)) (hi : IntsAre vs (natInts xs)) (hlL : l ≠ env.locals) (F : Fr h₀ env.locals s.heap m₀) (N : News h₀ env.locals s.heap all) (hs : ∀ p ∈ news, p ∈ all) (hj : J [] xs m₀ news)
    (turn : ∀ done y rest t m₁ news₁ h tk own I, xs = done ++ y :: rest → J done (y :: rest) m₁ news₁ → (∀ p ∈ news₁, p.1 ≠ I) → (∀ p ∈ own, p.2.cls = .type "list" ∨ p.2.cls = .type "list_iterator") →
      Fr h₀ env.locals h (fun z => if z = x then some (.int (y : Nat) t) else m₁ z) → News h₀ env.locals h (news₁ ++ own) →
      wpAny (model prog w) A (execs body env) (TurnEndA I h₀ env.locals own (J (done ++ [y]) rest) { s with heap := h, toks := tk } Q) E { s with heap := h, toks := tk })
    (done : ∀ m₁ news₁ h tk, J xs [] m₁ news₁ → Fr h₀ env.locals h m₁ → News h₀ env.locals h news₁ → Q .next { s with heap := h, toks := tk }) :
    wpAny (model prog w) A (pyIter (.ref l)) (fun it s₂ => LoopAtV prog w A h₀ env x body Q E it s₂) E s := by
  have hls : s.heap.IsList l vs.toArray := PySem.IsL.isList (n := c) hl
  have hlt : l < s.heap.objs.size := Heap.lt_size hl
  have hne : l ≠ s.heap.objs.size := Nat.ne_of_lt hlt
  refine wpAny_pyIter_list hls ?_
  have W := Walks.list (prog := prog) (w := w) hh s.heap.objs.size l hne vs.toArray
  have hlen : vs.toArray.size = xs.length := by simp [hi.length, natInts_length]
  rw [hlen] at W
  let J' : Nat → (Str → Option Value) → List (Addr × Obj) → Prop := fun i m₁ news₁ => J (xs.take i) (xs.drop i) m₁ news₁
  have hLI : env.locals ≠ s.heap.objs.size := Nat.ne_of_lt F.ns.lt
  refine ⟨_, _, _, xs.length, _, _, m₀, news, J', rfl, W, ?_, ?_, ?_, ⟨⟨_, Heap.get?_push_size _ rfl, rfl, rfl⟩, hls.at fun o e => Heap.get?_push_of_some _ e⟩, F.push _, (fun p hp => ⟨Heap.get?_push_of_some _ (N p (hs p hp)).1, (N p (hs p hp)).2⟩), (by simpa [J'] using hj), ?_, ?_⟩
  · intro hm
    rcases List.mem_cons.mp hm with e | hm
    · exact hLI e
    · exact hlL (List.mem_singleton.mp hm).symm
  · intro b hb
    rw [List.mem_singleton.mp hb]
    exact next_is_new F
  · intro p hp hI
    exact absurd (Heap.lt_size (N p (hs p hp)).1) ((List.mem_singleton.mp hI) ▸ Nat.lt_irrefl _)
  · rintro i v m₁ news₁ s₁ own ⟨hh', tk', rfl⟩ hin hP hJ hoff hown hown2 hall hst F₁ N₁
    have hlt' : i < xs.length := hin
    obtain ⟨⟨oi, hoi, hoic, hoid⟩, hl₁⟩ := hst
    have hl₂ : hh'.get? l = some (listOf vs.toArray c) ∨ ∃ ol, hh'.get? l = some ol ∧ ol.cls = .type "list" := by
      obtain ⟨ol, hol, hc, _⟩ := hl₁
      exact .inr ⟨ol, hol, hc⟩
    have hcls : ∀ p ∈ own, p.2.cls = .type "list" ∨ p.2.cls = .type "list_iterator" := fun p hp => by
      have hg := hown2 p hp
      rcases List.mem_cons.mp (hown p hp) with e | e
      · rw [e] at hg
        have hg' : hh'.get? s.heap.objs.size = some p.2 := hg
        rw [hoi] at hg'
        cases hg'
        exact .inr hoic
      · rw [List.mem_singleton.mp e] at hg
        obtain ⟨ol, hol, hc, _⟩ := hl₁
        rw [hol] at hg
        cases hg
        exact .inl hc
    have hIown : (s.heap.objs.size, oi) ∈ own := hall _ (.head _) (next_is_new F) _ hoi
    obtain ⟨t, hx⟩ := hi.get i ((xs[i] : Nat) : Int) (by simp [natInts, hlt'])
    have hv : v = .int (xs[i] : Nat) t := by
      have hP' : vs[i]? = some v := by simpa using hP
      rw [hx] at hP'; exact (Option.some.inj hP').symm
    subst hv
    have hsplit : xs = xs.take i ++ xs[i] :: xs.drop (i + 1) := by rw [List.getElem_cons_drop, List.take_append_drop]
    have hd : xs.drop i = xs[i] :: xs.drop (i + 1) := (List.getElem_cons_drop hlt').symm
    have ht : xs.take (i + 1) = xs.take i ++ [xs[i]] := by rw [List.take_succ_eq_append_getElem hlt']
    have hJ₀ : J (xs.take i) (xs[i] :: xs.drop (i + 1)) m₁ news₁ := by rw [← hd]; exact hJ
    refine wpAny_mono (turn (xs.take i) xs[i] (xs.drop (i + 1)) t m₁ news₁ hh' tk' own s.heap.objs.size hsplit hJ₀ (fun p hp e => hoff p hp (List.mem_singleton.mpr e)) hcls F₁ (news_swap N₁)) (fun f s₂ p => ?_) fun _ _ e => e
    have fin : (∃ h' tk m' all nx, s₂ = { s with heap := h', toks := tk } ∧ Fr h₀ env.locals h' m' ∧ News h₀ env.locals h' all ∧ (∀ p ∈ own, p ∈ all) ∧ (∀ p ∈ nx, p ∈ all) ∧ (∀ p ∈ nx, p.1 ≠ s.heap.objs.size) ∧ J (xs.take i ++ [xs[i]]) (xs.drop (i + 1)) m' nx) →
        LoopStepU h₀ env.locals [s.heap.objs.size] own (J' (i + 1)) { s with heap := hh', toks := tk' } .next s₂ := by
      rintro ⟨h', tk, m', all', nx, e, F', N', ho, hn, hc, hm⟩
      refine ⟨rfl, h', tk, m', nx, e, F', fun p hp => N' p ((List.mem_append.mp hp).elim (ho p) (hn p)), fun p hp hq => hc p hp (List.mem_singleton.mp hq), ?_⟩
      · show J (xs.take (i + 1)) (xs.drop (i + 1)) m' nx
        rw [ht]; exact hm
    cases f with
    | ret v => exact .ret p
    | brk => exact .brk p
    | next => exact .next (fin p)
    | cont => exact .cont (fin p)
  · rintro h' tk m' news' F' N' _ hJ
    have hJ₁ : J (xs.take xs.length) (xs.drop xs.length) m' news' := hJ
    rw [List.take_length, List.drop_length] at hJ₁
    exact done m' news' h' tk hJ₁ F' N'
end
end Mine
namespace Mine
theorem nsStep_eq {T : List RowD} {D : List (Str × Str)} {j : Nat} {R : RowD} (h : T[j]? = some R) : nsStep T D j = if R.value = Str.ofString "" then (if hasS D R.name then delS D R.name else D) else putS D R.name R.value := by
  unfold nsStep; rw [rowOf_eq h]
end Mine
end
section
open PySem PySem.W PySem.Calls PyProof.Rows
namespace Mine
/-! ## dict([(text, text), ..]) -/
theorem noKeys : typeLookup (.type "list") (Str.ofString "keys") = pure none := am_miss_of_fast (by decide +kernel)
theorem getAttrB_miss {prog : Program} {w : World} {A : Around} {E : Value → Shared → Prop} {s : Shared} {a : Addr} {xs : Array Value} {k : Nat} {name : Str} {t : Tok} {Q : Value → Shared → Prop}
    (hx : s.heap.get? a = some (listOf xs k)) (hmiss : typeLookup (.type "list") name = pure none) (hname : (["__module__", "__name__", "__qualname__", "__doc__", "__annotations__"] : List Str).contains name = false) (hA : A.handled = none)
    (h : ∀ h' tk e, Heap.NewExcOf s.heap h' e "AttributeError" → E (.ref e) { s with heap := h', toks := tk }) (hsz : name.length + 100 ≤ sizeLine) :
    wpAny (model prog w) A (getAttrBy (.ref a) (.str name t) false) Q E s := by
  obtain ⟨hp, g, d, tk, os⟩ := s
  have hT : ∀ tk', (⟨hp, g, d, tk', os⟩ : Shared).TypeIs (.ref a) "list" := fun _ => ⟨_, hx, rfl⟩
  have f1 := sub_AttributeError
  have f3 := PySem.F.slot_list_getattribute.lookup
  have f4 := PySem.F.slot_list_getattribute.bind (.ref a)
  have f5 := am_list_getattr_none
  unfold getAttrBy
  repeat (any_goals (first | assumption | exact hT _ | ((with_reducible show wpAny _ _ (call (Value.builtin "list.__getattribute__") _ _) _ _ _); refine call_meets PySem.F.slot_list_getattribute (hT _) am_entry_list_getattribute (PySem.F.args_list_getattribute_2 _ _) (meets_getattribute_miss_list a xs k #[] name _ hmiss hname hsz) ⟨hx, hA, fun h' tk' e hx' => ?_⟩) | wp_step))
  obtain ⟨t', u', he⟩ := hx'.there
  show wpAny _ _ (getattributeRaised _ _ _ _ _ _ _) _ _ _
  unfold getattributeRaised
  repeat (any_goals (first | assumption | wp_step))
  exact h _ _ _ hx'.of
end Mine
namespace Mine
theorem entry_upd_loop : entryFor table "dict.update.loop" = some Builtin.«dict.update.loop» := entryFor_of_tree (by kernel_rfl)
theorem plain_upd_loop : plainId "dict.update.loop" = true := by decide +kernel
section
variable {prog : Program} {w : World} {A : Around} {s : Shared}
theorem getAttr?_miss {a : Addr} {xs : Array Value} {k : Nat} {Q : Option Value → Shared → Prop} {E : Value → Shared → Prop} (hx : s.heap.get? a = some (listOf xs k)) (hA : A.handled = none)
    (h : ∀ h' tk, Ext s.heap h' → Q none { s with heap := h', toks := tk }) : wpAny (model prog w) A (getAttr? (.ref a) (Str.ofString "keys")) Q E s := by
  unfold getAttr?
  refine wpAny_bind (wpAny_mkText ?_)
  unfold getAttrBy?
  refine wpAny_bind (wpAny_attempt (getAttrB_miss hx noKeys (by decide) hA (fun h' tk e hn => ?_) (by rw [sizeLine_eq]; decide)))
  obtain ⟨ob, vs, he, hc, _⟩ := hn.there
  refine wpAny_bind (wpAny_isInstance (⟨ob, he, hc⟩ : (Shared.TypeIs _ (.ref e) "AttributeError")) sub_AttributeError ?_)
  exact wpAny_pure (h h' tk hn.keeps)
/-- pairs of texts, as tuples -/
inductive TuS (h : Heap) : List Value → List (Str × Str) → Prop
  | nil : TuS h [] []
  | cons {a : Addr} (p u : Str) (t t' : Tok) {vs : List Value} {D : List (Str × Str)} : h.get? a = some (tupObj [.str p t, .str u t']) → TuS h vs D → TuS h (.ref a :: vs) ((p, u) :: D)
theorem upd_loop {d I l : Addr} {R : Result → Shared → Prop} (hh : A.handled = none) (hdI : d ≠ I) (hld : l ≠ d) (hlI : l ≠ I) (items : List Value) (hl : s.heap.IsList l items.toArray) :
    ∀ (rest : List Value) (D : List (Str × Str)) (i : Nat) (t : Tok) (kvs : List (Str × Value)) (acc : List (Str × Str)) (h : Heap) (tk : Nat), items.drop i = rest → TuS s.heap rest D → (∀ v ∈ rest, ∀ a, v = .ref a → a ≠ I ∧ a ≠ d) →
      h.DictOf (sk prog w) d kvs → SP kvs acc → acc.length + D.length ≤ 100000 → h.IsListIter I l i → (∀ b o, b ≠ I → b ≠ d → s.heap.get? b = some o → h.get? b = some o) →
      (∀ (h' : Heap) (tk' : Nat) kvs', h'.DictOf (sk prog w) d kvs' → SP kvs' (D.foldl (fun acc x => putS acc x.1 x.2) acc) → (∀ b o, b ≠ I → b ≠ d → s.heap.get? b = some o → h'.get? b = some o) → R (.ok (.ret .none)) { s with heap := h', toks := tk' }) →
      codeAny (model prog w) A (.builtin "dict.update.loop" ⟨[.ref d, .ref I, .int i t, .none], []⟩) R { s with heap := h, toks := tk } := by
  intro rest
  induction rest with
  | nil =>
    intro D i t kvs acc h tk hdr hT hne hd hf hz hit hk done
    cases hT
    refine codeAny_builtin entry_upd_loop ?_
    rw [Around.under_plainId plain_upd_loop _]
    unfold Builtin.«dict.update.loop»
    dsimp only
    refine wpAny_bind (wpAny_pyNext_list_end hh hit (hl.at fun o e => hk _ o hlI hld e) (by simpa using hdr) fun h' hx => ?_)
    refine wpAny_bind (wpAny_pure (wpAny_pure ?_))
    exact done h' _ kvs (hd.at fun o e => hx _ o hdI e) hf fun b o h1 h2 e => hx b o h1 (hk b o h1 h2 e)
  | cons v rest ih =>
    intro D i t kvs acc h tk hdr hT hne hd hf hz hit hk done
    cases hT with
    | @cons a p u t1 t2 vs D hg hT =>
      refine codeAny_builtin entry_upd_loop ?_
      rw [Around.under_plainId plain_upd_loop _]
      unfold Builtin.«dict.update.loop»
      dsimp only
      have hx : items.toArray[i]? = some (.ref a) := by
        have := congrArg (fun l => l[0]?) hdr
        simpa using this
      refine wpAny_bind (wpAny_pyNext_list_item hit (hl.at fun o e => hk _ o hlI hld e) hx fun h' hit' hs => ?_)
      dsimp only
      have hgt : h'.get? a = some (tupObj [.str p t1, .str u t2]) := by
        have hne' := hne _ (.head _) a rfl
        exact hs.extBut _ _ hne'.1 (hk _ _ hne'.1 hne'.2 hg)
      refine wpAny_bind (wpAny_holding ?_)
      refine wpAny_bind ?_
      refine wpAny_tryCatch ?_
      unfold Builtin.Dict.pairItems
      refine wpAny_bind (wpAny_typeOf (⟨_, hgt, rfl⟩ : (Shared.TypeIs _ (.ref a) "tuple")) ?_)
      have hc : ((Value.type "tuple" == Value.type "list") || (Value.type "tuple" == Value.type "tuple")) = true := by decide
      rw [if_pos hc]
      refine wpAny_bind (wpAny_seqItems hgt rfl (wpAny_pure ?_))
      refine wpAny_holding ?_
      have hlen := putS_len acc p u
      have hd' : h'.DictOf (sk prog w) d kvs := hd.at fun o e => hs.extBut _ _ hdI e
      simp only [List.length_cons] at hz
      refine wpAny_dictSet_pairs (knd := sk prog w) (strKind_is _ _ p t1) hd' (fun h6 hd6 hs6 => ?_) (by have := hf.len; rw [sizeLine_eq]; omega)
      have hI6 : h6.IsListIter I l (i + 1) := hit'.at fun o e => hs6.extBut _ _ (Ne.symm hdI) e
      have hk6 : ∀ b o, b ≠ I → b ≠ d → s.heap.get? b = some o → h6.get? b = some o := fun b o h1 h2 e => hs6.extBut b o h2 (hs.extBut b o h1 (hk b o h1 h2 e))
      refine wpAny_pure ⟨plainId_quiet plain_upd_loop _, ?_⟩
      have := ih D (i + 1) 0 (stored kvs p (.str u t2)) (putS acc p u) h6 (tk + 1) (by rw [← List.drop_drop, hdr]; rfl) hT (fun v hv => hne v (.tail _ hv)) hd6 (hf.stored p u t2) (by omega) hI6 hk6 (fun h7 tk7 kvs7 a1 a2 a3 => done h7 tk7 kvs7 a1 a2 a3)
      exact this
theorem dict_pairs {h₀ : Heap} {L l : Addr} {m : Str → Option Value} {news : List (Addr × Obj)} {vs : List Value} {c : Nat} {D : List (Str × Str)} {E : Value → Shared → Prop} {Q : Value → Shared → Prop} (hh : A.handled = none) (F : Fr h₀ L s.heap m) (N : News h₀ L s.heap news) (hl : s.heap.get? l = some (listOf vs.toArray c)) (hT : TuS s.heap vs D) (hz : D.length ≤ 100000)
    (h : ∀ d h' tk o kvs, Fr h₀ L h' m → News h₀ L h' ((d, o) :: news) → (∀ p ∈ news, p.1 ≠ d) → @LT.lt Nat _ L d → o.IsDictOf (sk prog w) kvs → SP kvs (D.foldl (fun acc x => putS acc x.1 x.2) []) → Q (.ref d) { s with heap := h', toks := tk }) :
    wpAny (model prog w) A (call (.type "dict") [.ref l]) Q E s := by
  have hLs : L < s.heap.objs.size := F.ns.lt
  refine callType_codes (Q₁ := fun obj s₁ => obj = .ref s.heap.objs.size ∧ s₁ = { s with heap := s.heap.push { cls := .type "dict", data := .dict #[] } }) PySem.F.kt_called_dict (PySem.F.kt_typeCall_dict_1 _) PySem.F.entry_dict_init (PySem.kt_code_dict_new _ ⟨rfl, rfl⟩) ?_
  rintro obj s₁ ⟨rfl, rfl⟩
  have hnew : (s.heap.push { cls := .type "dict", data := .dict #[] }).DictOf (sk prog w) s.heap.objs.size [] := Heap.DictOf.new s.heap
  refine ⟨hnew.typeIs, PySem.F.args_dict_init_2 _ _, ?_⟩
  unfold Builtin.«dict.__init__»
  refine wpAny_bind ?_
  unfold Builtin.Dict.selfAndRest
  refine wpAny_bind (wpAny_notOrdered_dict hnew.typeIs ?_)
  show wpAny _ _ (pure (s.heap.objs.size, [Value.ref l])) _ _ _
  refine wpAny_pure ?_
  show wpAny _ _ (Builtin.Dict.updateFrom "dict.__init__" s.heap.objs.size (.ref l) [] .none) _ _ _
  have hlt : l < s.heap.objs.size := Heap.lt_size hl
  have hl1 : (s.heap.push { cls := .type "dict", data := .dict #[] }).get? l = some (listOf vs.toArray c) := Heap.get?_push_of_some _ hl
  unfold Builtin.Dict.updateFrom
  refine wpAny_bind (wpAny_typeOf (⟨_, hl1, rfl⟩ : (Shared.TypeIs _ (.ref l) "list")) ?_)
  rw [if_pos (by decide)]
  refine wpAny_bind (getAttr?_miss hl1 hh fun h2 tk2 he2 => ?_)
  rw [if_pos (show (Option.none : Option Value).isNone = true from rfl)]
  refine wpAny_bind (wpAny_rule ?_)
  have hl2 := he2 _ _ hl1
  refine wpAny_bind (wpAny_pyIter_list (PySem.IsL.isList (n := c) hl2) ?_)
  refine wpAny_pure ⟨plainId_quiet plain_upd_loop _, ?_⟩
  have hdg : (s.heap.push { cls := .type "dict", data := .dict #[] }).get? s.heap.objs.size = some { cls := .type "dict", data := .dict #[] } := Heap.get?_push_size _ rfl
  have hd2 : s.heap.objs.size < h2.objs.size := Heap.lt_size (he2 _ _ hdg)
  have hl3 : l < h2.objs.size := Heap.lt_size hl2
  have up : ∀ b o, s.heap.get? b = some o → (h2.push { cls := .type "list_iterator", data := .fields #[.ref l, .int 0 0] }).get? b = some o := fun b o e => Heap.get?_push_of_some _ (he2 _ _ (Heap.get?_push_of_some _ e))
  have hT' : TuS (h2.push { cls := .type "list_iterator", data := .fields #[.ref l, .int 0 0] }) vs D := by
    clear h hz hl hl1 hl2
    induction hT with
    | nil => exact .nil
    | cons p u t t' hg _ ih => exact .cons p u t t' (up _ _ hg) ih
  have hlt' : ∀ v ∈ vs, ∀ a, v = .ref a → a < s.heap.objs.size := by
    clear h hz hl hl1 hl2 hT'
    induction hT with
    | nil => intro v hv; cases hv
    | cons p u t t' hg _ ih =>
      intro v hv a e
      rcases List.mem_cons.mp hv with rfl | hv
      · cases e; exact Heap.lt_size hg
      · exact ih v hv a e
  refine upd_loop (s := { s with heap := h2.push { cls := .type "list_iterator", data := .fields #[.ref l, .int 0 0] } }) (d := s.heap.objs.size) (I := h2.objs.size) (l := l) (A := A.in1) hh (Nat.ne_of_lt hd2) (Nat.ne_of_lt hlt) (Nat.ne_of_lt hl3) vs (PySem.IsL.isList (n := c) (Heap.get?_push_of_some _ hl2))
    vs D 0 _ [] [] _ tk2 rfl hT' (fun v hv a e => ⟨Nat.ne_of_lt (Nat.lt_trans (hlt' v hv a e) hd2), Nat.ne_of_lt (hlt' v hv a e)⟩) ?_ .nil (by simpa using hz) ⟨_, Heap.get?_push_size _ rfl, rfl, rfl⟩ (fun b o _ _ e => e) ?_
  · exact (hnew.at fun o e => Heap.get?_push_of_some _ (he2 _ _ e))
  · intro h' tk' kvs' a1 a2 a3
    obtain ⟨o, ho, hdo⟩ := Heap.dictOf_iff.mp a1
    have keep : ∀ b o, s.heap.get? b = some o → h'.get? b = some o := fun b o e => a3 b o (Nat.ne_of_lt (Nat.lt_trans (Heap.lt_size e) hd2)) (Nat.ne_of_lt (Heap.lt_size e)) (up _ _ e)
    refine ⟨rfl, h _ h' tk' o kvs' (F.keeps keep) (fun p hp => ?_) (fun p hp => Nat.ne_of_lt (Heap.lt_size (N p hp).1)) hLs hdo a2⟩
    rcases List.mem_cons.mp hp with rfl | hp
    · exact ⟨ho, Nat.ne_of_gt hLs, Heap.get?_none_of_le (Nat.le_trans F.above (Nat.le_of_lt hLs))⟩
    · exact ⟨keep _ _ (N p hp).1, (N p hp).2⟩
end
end Mine
end
section
open PySem PySem.W PySem.Calls PyProof.Rows
namespace Mine
/-! ## [elt for x in dict if test] -/
section
variable {prog : Program} {w : World} {A : Around} {E : Value → Shared → Prop} {s : Shared} {h₀ : Heap} {L : Addr} {m : Str → Option Value} {env : Env}
def DkSrc (prog : Program) (w : World) (A : Around) (h₀ : Heap) (L : Addr) (m : Str → Option Value) (env : Env) (ct elt : PySem.Expr) (x : Str) (scope : Scope) (cl : List (Str × Addr)) (Q : Value → Shared → Prop) (xv : Value) (s₁ : Shared) : Prop :=
  ∃ d oD kvs news, xv = .ref d ∧ A.handled = none ∧ Fr h₀ L s₁.heap m ∧ News h₀ L s₁.heap news ∧ (d, oD) ∈ news ∧ oD.IsDictOf (sk prog w) kvs ∧ (d == sysModules) = false ∧ kvs.length ≤ 100000 ∧
    ∀ s₂ : Shared, (∃ h, s₂ = { s₁ with heap := h }) → LCt.CompRestT prog w A h₀ L m env ct elt x scope cl s₂ (fun nw => (d, oD) ∈ nw) (fun i v => ∃ k x, kvs[i]? = some (k, x) ∧ (sk prog w).is k v = true) (LCg.FinE h₀ L m s₂ Q) kvs.length 0 [] news
theorem ListComp_D {ct elt iter : PySem.Expr} {x : Str} {px : Pos} {scope : Scope} {cl : List (Str × Addr)} {pos : Pos} {Q : Value → Shared → Prop} (F₀ : Fr h₀ L s.heap m)
    (hclos : closureFor scope env = pure cl) (hcell : ∀ y ∈ scope.names, y.2 ≠ .cell) (hkind : scope.kind = .function)
    (hnames : ∀ y ∈ scope.names, y.2 = .local → scope.names.lookup y.1 = some .local) (hx : scope.names.lookup x = some .local)
    (h : wpAny (model prog w) A (eval iter env) (DkSrc prog w A h₀ L m env ct elt x scope cl Q) E s)
    (hs : ∀ x, foldedSetIterable iter env x = pure x := by intro _; rfl) :
    wpAny (model prog w) A (eval (.ListComp elt [⟨.Name x px, iter, [ct], 0⟩] scope pos) env) Q E s := by
  rw [eval_ListComp]
  refine wpAny_comprehension_free (use := none) rfl hs hclos hkind hnames (wpAny_mono h (fun xv s₁ h₁ => ?_) fun _ _ e => e)
  obtain ⟨d, oD, kvs, news, rfl, hh, F, N, hm, hd, lo, hz, R⟩ := h₁
  obtain ⟨es, ep, hex, hdat, hky, hpr, hnd⟩ := id hd
  have at' : ∀ h : Heap, h.get? d = some oD → h.DictAt (sk prog w) d kvs ep := fun h e => ⟨oD, es, e, hex, hdat, hky, hpr, hnd⟩
  have hat := at' _ (N _ hm).1
  have hlt : d < s₁.heap.objs.size := Heap.lt_size (N _ hm).1
  refine wpAny_pyIter_dict lo hat ?_
  have up : ∀ (it : Obj) b o, s₁.heap.get? b = some o → (s₁.heap.push it).get? b = some o := fun it b o e => Heap.get?_push_of_some _ e
  refine LCt.block_T (S := fun nw => (d, oD) ∈ nw) (Walks.dictKeys hh s₁.heap.objs.size d (Nat.ne_of_lt hlt) kvs ep) (by rw [sizeLine_eq]; omega) (fun i h st => ?_) (fun i h h' o nw st e e' k N' S' => ?_) hcell hkind hx ?_ (fun b hb => ?_)
    (F.keeps (up _)) (N.grown (up _)) (Nat.ne_of_lt F.ns.lt) (next_is_new F) (fun p hp => Nat.ne_of_lt (Heap.lt_size (N p hp).1)) hm (R _ ⟨_, rfl⟩) ?_
  · obtain ⟨o, e, _⟩ := st.1; exact ⟨o, e⟩
  · obtain ⟨o', q, r⟩ := st.1
    rw [e] at q; cases q
    exact ⟨⟨o, e', r⟩, at' _ (N' _ S').1⟩
  · exact ⟨⟨_, Heap.get?_push_size _ rfl, rfl, rfl⟩, hat.push _⟩
  · show b < (s₁.heap.push _).objs.size
    rw [Heap.size_push]
    rcases List.mem_cons.mp hb with rfl | hb
    · exact Nat.lt_succ_self _
    · rw [List.mem_singleton.mp hb]; exact Nat.lt_succ_of_lt hlt
  · intro D C h tk m' ys news' F' N' o1 hn hC₀ hD₀ hCL hDL hCD offC fin
    refine ⟨m', hn, fun h'' hs'' => fin D h'' tk (F'.change hs'' hCL hC₀) (fun p hp => ?_) o1⟩
    refine ⟨hs''.extBut _ _ ?_ (N' p hp).1, (N' p hp).2⟩
    rcases List.mem_cons.mp hp with rfl | hp
    · exact Ne.symm hCD
    · exact offC p hp
/-- the turns over a dict of texts -/
theorem restD {ct elt : PySem.Expr} {x : Str} {scope : Scope} {cl : List (Str × Addr)} {d : Addr} {oD : Obj} {Fin : List Value → List (Addr × Obj) → Prop} {kvs : List (Str × Value)} {D : List (Str × Str)} (hf : SP kvs D)
    (J : List (Str × Str) → List Value → List (Addr × Obj) → Prop)
    (turn : ∀ done p u rest ys news t I oI C oC B m₂ h tk (E' : Value → Shared → Prop), D = done ++ (p, u) :: rest → J done ys news → LCg.NsObj oC m₂ → m₂ x = some (.str p t) → Fr h₀ L h m → News h₀ L h ((I, oI) :: (C, oC) :: (B, LCg.lst ys) :: news) → LCg.Off3 I C B news → ((@Ne Nat I C) ∧ (@Ne Nat I B) ∧ (@Ne Nat C B)) →
      wpAny (model prog w) A (isTrue ct (compEnvC scope cl C env) (eval ct (compEnvC scope cl C env))) (fun ok s' => if ok = true then
        wpAny (model prog w) A (eval elt (compEnvC scope cl C env)) (LCg.CompEnd h₀ L m { s with heap := h, toks := tk } I oI C oC B (LCg.lst ys) (fun nw => (d, oD) ∈ nw) (fun y' news' => J (done ++ [(p, u)]) (ys ++ [y']) news')) E' s'
        else LCg.CompEnd h₀ L m { s with heap := h, toks := tk } I oI C oC B (LCg.lst ys) (fun nw => (d, oD) ∈ nw) (fun _ news' => J (done ++ [(p, u)]) ys news') Value.none s') E' { s with heap := h, toks := tk })
    (fin : ∀ ys news, J D ys news → Fin ys news) :
    ∀ (rest done : List (Str × Str)) (ys : List Value) (news : List (Addr × Obj)), D = done ++ rest → J done ys news →
      LCt.CompRestT prog w A h₀ L m env ct elt x scope cl s (fun nw => (d, oD) ∈ nw) (fun i v => ∃ k x, kvs[i]? = some (k, x) ∧ (sk prog w).is k v = true) Fin rest.length done.length ys news := by
  have hkey : ∀ (i : Nat) k y, kvs[i]? = some (k, y) → ∃ u, D[i]? = some (k, u) := by
    clear turn fin J
    induction hf with
    | nil => intro i k y h; simp at h
    | cons p u t _ ih =>
      intro i k y h
      cases i with
      | zero => simp at h; exact ⟨u, by simp [h.1]⟩
      | succ i => simpa using ih i k y (by simpa using h)
  intro rest
  induction rest with
  | nil =>
    intro done ys news hx hJ
    rw [List.append_nil] at hx
    subst hx
    exact LCt.CompRestT.zero (fin ys news hJ)
  | cons pu rest ih =>
    obtain ⟨p, u⟩ := pu
    intro done ys news hx hJ
    refine LCt.CompRestT.succ fun v I oI C oC B m₂ h tk E' hv hC hm F N off ne => ?_
    obtain ⟨k, y, hk1, hk2⟩ := hv
    obtain ⟨u', hu'⟩ := hkey _ _ _ hk1
    have : D[done.length]? = some (p, u) := by rw [hx]; simp
    rw [this] at hu'
    cases hu'
    obtain ⟨t, rfl⟩ : ∃ t, v = .str p t := by
      cases v <;> simp [sk, PySem.strKind, Value.isStrOf] at hk2
      case str n t => exact ⟨t, by rw [hk2]⟩
    have up : ∀ ys' news', J (done ++ [(p, u)]) ys' news' → LCt.CompRestT prog w A h₀ L m env ct elt x scope cl s (fun nw => (d, oD) ∈ nw) (fun i v => ∃ k x, kvs[i]? = some (k, x) ∧ (sk prog w).is k v = true) Fin rest.length (done.length + 1) ys' news' := fun ys' news' hr => by
      have := ih (done ++ [(p, u)]) ys' news' (by rw [hx]; simp) hr
      rwa [List.length_append, List.length_singleton] at this
    refine wpAny_mono (turn done p u rest ys news t I oI C oC B m₂ h tk E' hx hJ hC hm F N off ne) (fun ok s' he => ?_) fun _ _ e => e
    by_cases hok : ok = true
    · rw [if_pos hok] at he ⊢
      refine wpAny_mono he (fun y' s' he => ?_) fun _ _ e => e
      obtain ⟨h', tk', news', e, F', N', o', hS, hr⟩ := he
      exact ⟨h', tk', news', e, F', N', o', hS, up _ _ hr⟩
    · rw [if_neg hok] at he ⊢
      obtain ⟨h', tk', news', e, F', N', o', hS, hr⟩ := he
      exact ⟨h', tk', news', e, F', N', o', hS, up _ _ hr⟩
end
end Mine
namespace Mine
def lawNs (T : List RowD) (D : List (Str × Str)) (j : Nat) : List (Str × Str) := putS D (rowOf T j).name (rowOf T j).value
def lawLine (T : List RowD) (D : List (Str × Str)) (a : Nat) : List (Str × Str) := (rowOf T a).nss.foldl (lawNs T) D
def lawRaw (T : List RowD) (line : List Nat) : List (Str × Str) := line.foldl (lawLine T) xmlPair
def notNil (D : List (Str × Str)) : List (Str × Str) := D.filter fun x => !decide (x.2 = Str.ofString "")
def lawScopeD (T : List RowD) (line : List Nat) : List (Str × Str) := (notNil (lawRaw T line)).foldl (fun acc x => putS acc x.1 x.2) []
theorem lawNs_eq {T : List RowD} {D : List (Str × Str)} {j : Nat} {R : RowD} (h : T[j]? = some R) : lawNs T D j = putS D R.name R.value := by
  unfold lawNs; rw [rowOf_eq h]
end Mine
namespace Mine
theorem new_list1 {prog : Program} {w : World} {A : Around} {E : Value → Shared → Prop} {s : Shared} {h₀ : Heap} {L : Addr} {m : Str → Option Value} {news : List (Addr × Obj)} {v : Value} {Q : Value → Shared → Prop} (F : Fr h₀ L s.heap m) (N : News h₀ L s.heap news)
    (h : ∀ D h', Fr h₀ L h' m → News h₀ L h' ((D, listOf (List.toArray [v]) 0) :: news) → (∀ p ∈ news, p.1 < D) → Q (.ref D) { s with heap := h' }) : wpAny (model prog w) A (newList [v]) Q E s :=
  wpAny_newList (h _ _ (F.push _) (News.push F N _) fun p hp => Heap.lt_size (N p hp).1) (by show 1 ≤ _; rw [sizeLine_eq]; omega)
end Mine
namespace Mine
theorem news_sel {h₀ h : Heap} {L : Addr} {a b c : Addr × Obj} {r : List (Addr × Obj)} (N : News h₀ L h (a :: b :: c :: r)) : News h₀ L h (a :: r) := fun p hp => by
  rcases List.mem_cons.mp hp with rfl | hp
  · exact N _ (.head _)
  · exact N _ (.tail _ (.tail _ (.tail _ hp)))
end Mine
namespace Mine
/-- pairs of texts, as tuples of the ledger -/
inductive TuL (news : List (Addr × Obj)) : List Value → List (Str × Str) → Prop
  | nil : TuL news [] []
  | cons {a : Addr} (p u : Str) (t t' : Tok) {vs : List Value} {D : List (Str × Str)} : (a, tupObj [.str p t, .str u t']) ∈ news → TuL news vs D → TuL news (.ref a :: vs) ((p, u) :: D)
theorem TuL.snoc {news : List (Addr × Obj)} {vs : List Value} {D : List (Str × Str)} {a : Addr} {p u : Str} {t t' : Tok} (h : TuL news vs D) (hm : (a, tupObj [.str p t, .str u t']) ∈ news) : TuL news (vs ++ [.ref a]) (D ++ [(p, u)]) := by
  induction h with
  | nil => exact .cons p u t t' hm .nil
  | cons p' u' s s' hm' _ ih => exact .cons p' u' s s' hm' ih
theorem TuL.mono {news news' : List (Addr × Obj)} {vs : List Value} {D : List (Str × Str)} (h : TuL news vs D) (hs : ∀ p ∈ news, p ∈ news') : TuL news' vs D := by
  induction h with
  | nil => exact .nil
  | cons p u t t' hm _ ih => exact .cons p u t t' (hs _ hm) ih
theorem TuL.tus {h₀ h : Heap} {L : Addr} {news : List (Addr × Obj)} {vs : List Value} {D : List (Str × Str)} (x : TuL news vs D) (N : News h₀ L h news) : TuS h vs D := by
  induction x with
  | nil => exact .nil
  | cons p u t t' hm _ ih => exact .cons p u t t' (N.get hm) ih
theorem TuL.len {news : List (Addr × Obj)} {vs : List Value} {D : List (Str × Str)} (h : TuL news vs D) : vs.length = D.length := by
  induction h with
  | nil => rfl
  | cons _ _ _ _ _ _ ih => simp [ih]
section
variable {prog : Program} {w : World} {A : Around} {E : Value → Shared → Prop} {s : Shared} {h₀ : Heap} {L : Addr} {m : Str → Option Value} {env : Env}
theorem DkSrc.mk {ct elt : PySem.Expr} {x : Str} {scope : Scope} {cl : List (Str × Addr)} {Q : Value → Shared → Prop} {s₁ : Shared} {d : Addr} {oD : Obj} {kvs : List (Str × Value)} {D : List (Str × Str)} {news : List (Addr × Obj)} (hh : A.handled = none) (F : Fr h₀ L s₁.heap m) (N : News h₀ L s₁.heap news) (hm : (d, oD) ∈ news) (hd : oD.IsDictOf (sk prog w) kvs) (lo : (d == sysModules) = false) (hf : SP kvs D) (hz : D.length ≤ 100000)
    (J : List (Str × Str) → List Value → List (Addr × Obj) → Prop) (hJ : J [] [] news)
    (turn : ∀ done p u rest ys news t I oI C oC B m₂ h tk (E' : Value → Shared → Prop), D = done ++ (p, u) :: rest → J done ys news → LCg.NsObj oC m₂ → m₂ x = some (.str p t) → Fr h₀ L h m → News h₀ L h ((I, oI) :: (C, oC) :: (B, LCg.lst ys) :: news) → LCg.Off3 I C B news → ((@Ne Nat I C) ∧ (@Ne Nat I B) ∧ (@Ne Nat C B)) →
      wpAny (model prog w) A (isTrue ct (compEnvC scope cl C env) (eval ct (compEnvC scope cl C env))) (fun ok s' => if ok = true then
        wpAny (model prog w) A (eval elt (compEnvC scope cl C env)) (LCg.CompEnd h₀ L m { s₁ with heap := h, toks := tk } I oI C oC B (LCg.lst ys) (fun nw => (d, oD) ∈ nw) (fun y' news' => J (done ++ [(p, u)]) (ys ++ [y']) news')) E' s'
        else LCg.CompEnd h₀ L m { s₁ with heap := h, toks := tk } I oI C oC B (LCg.lst ys) (fun nw => (d, oD) ∈ nw) (fun _ news' => J (done ++ [(p, u)]) ys news') Value.none s') E' { s₁ with heap := h, toks := tk })
    (fin : ∀ ys news B h tk, J D ys news → Fr h₀ L h m → News h₀ L h ((B, LCg.lst ys) :: news) → LCg.Off1 B news → Q (.ref B) { s₁ with heap := h, toks := tk }) :
    DkSrc prog w A h₀ L m env ct elt x scope cl Q (.ref d) s₁ := by
  refine ⟨d, oD, kvs, news, rfl, hh, F, N, hm, hd, lo, by rw [hf.len]; exact hz, fun s₂ ⟨g, e⟩ => ?_⟩
  subst e
  rw [hf.len]
  exact restD (s := { s₁ with heap := g }) hf J turn (fun ys news hJ' B h tk F' N' o => fin ys news B h tk hJ' F' N' o) D [] [] news rfl hJ
end
end Mine
namespace Mine
theorem SP.keys {kvs : List (Str × Value)} {D : List (Str × Str)} (h : SP kvs D) : kvs.map (·.1) = D.map (·.1) := by
  induction h with
  | nil => rfl
  | cons _ _ _ _ ih => simp [ih]
theorem getS_at {D done rest : List (Str × Str)} {p u : Str} (hx : D = done ++ (p, u) :: rest) (hn : (D.map (·.1)).Nodup) : getS D p = some u := by
  unfold getS
  subst hx
  rw [List.map_append, List.nodup_append] at hn
  have : ∀ x ∈ done, decide (x.1 = p) = false := by
    intro x hx
    have := hn.2.2 x.1 (List.mem_map_of_mem hx) p (by simp)
    simpa using this
  rw [List.find?_append, List.find?_eq_none.mpr (by intro x hx; rw [this x hx]; simp)]
  simp
section
variable {prog : Program} {w : World} {A : Around} {E : Value → Shared → Prop} {s : Shared} {d : Addr} {o : Obj} {kvs : List (Str × Value)} {D : List (Str × Str)} {p u : Str} {tp : Tok}
theorem dict_nodup (hd : o.IsDictOf (sk prog w) kvs) (hf : SP kvs D) : (D.map (·.1)).Nodup := by
  obtain ⟨_, _, _, _, _, _, h⟩ := hd
  rw [← hf.keys]; exact h
theorem sd_item {value slice : PySem.Expr} {Q : Value → Shared → Prop} (hg : s.heap.get? d = some o) (hd : o.IsDictOf (sk prog w) kvs) (hf : SP kvs D) (hu : getS D p = some u) (h : ∀ t, Q (.str u t) { s with toks := s.toks + 1 })
    (hs : subscripted slice false (.ref d) (.str p tp) = operate [.ref d, .str p tp] (getItem (.ref d) (.str p tp)) := by with_unfolding_all rfl) :
    wpAny (model prog w) A (subscriptTail value slice (.ref d) (.str p tp)) Q E s := by
  have hD : s.heap.DictOf (sk prog w) d kvs := Heap.dictOf_iff.mpr ⟨o, hg, hd⟩
  rcases hf.get p with ⟨h1, h2⟩ | ⟨u', t', h1, h2⟩
  · rw [h1] at hu; cases hu
  · rw [h1] at hu; cases hu
    exact tail_any hD.typeIs slot_dict_getitem.lookup (wpAny_getItem_of (strKind_is _ _ p tp) hD.mapOf h2 (h t')) hs
end
theorem notNil_snoc (D : List (Str × Str)) (p u : Str) : notNil (D ++ [(p, u)]) = notNil D ++ (if u = Str.ofString "" then [] else [(p, u)]) := by
  unfold notNil
  rw [List.filter_append]
  by_cases h : u = Str.ofString ""
  · simp [h]
  · simp [h]
end Mine
end
section
open PySem PySem.W PySem.Calls PyProof.Rows
namespace Mine
/-! ## a tree of which a part is hidden -/
structure TreeHd (g : Addr → Option Obj) (ad : TAd) : Prop where
  inst : g ad.t = some (instObj 313 ad.dt)
  dict : ∃ hs t n, g ad.dt = some (dictOf [⟨hs, .str "rows" t, .ref ad.rl⟩] n)
theorem TreeAt.head {g : Addr → Option Obj} {T : List RowD} {ad : TAd} (h : TreeAt g T ad) : TreeHd g ad := ⟨h.inst, h.dict⟩
theorem TreeHd.ext {h h' : Heap} {ad : TAd} (x : TreeHd h.get? ad) (e : Ext h h') : TreeHd h'.get? ad :=
  ⟨e _ _ x.inst, by obtain ⟨a, b, c, d⟩ := x.dict; exact ⟨a, b, c, e _ _ d⟩⟩
theorem TreeHd.hide {h : Heap} {ad : TAd} {foot : List Addr} (x : TreeHd h.get? ad) (h1 : ad.t ∉ foot) (h2 : ad.dt ∉ foot) : TreeHd (hideAll h foot).get? ad :=
  ⟨hideAll_get _ x.inst h1, by obtain ⟨a, b, c, d⟩ := x.dict; exact ⟨a, b, c, hideAll_get _ d h2⟩⟩
theorem TAd.t_ne {ad : TAd} (h : ad.all.Nodup) : ad.t ≠ ad.dt ∧ ad.t ≠ ad.rl ∧ ad.dt ≠ ad.rl := by
  unfold TAd.all at h
  simp only [List.nodup_cons, List.mem_cons, not_or] at h
  exact ⟨h.1.1, h.1.2.1, h.2.1.1⟩
section
variable {prog : Program} {w : World} {A : Around} {E : Value → Shared → Prop} {s : Shared} {ad : TAd} {e : Bool}
theorem g_rowsH {Q : Value → Shared → Prop} (X : (Mine.hd.heap_39 w.params).In s.heap) (hT : TreeHd s.heap.get? ad) (h : Q (.ref ad.rl) { s with toks := s.toks + 1 }) :
    wpAny (model prog w) A (getAttr (.ref ad.t) "rows" e) Q E s := by
  obtain ⟨hs, t, n, hd⟩ := hT.dict
  refine' g_own X hT.inst hd ?a ?b ?c ?d ?e ?f h
  case a => k_dflt k_is
  case b => k_dflt k_is
  case c => k_dflt k_is
  case d => k_dflt k_is
  case e => rfl
  case f => rfl
end
end Mine
namespace Mine
section
variable {prog : Program} {w : World} {loose : List Str} {mean : ExcName → Option Value} {mg mb : Str → Option Value} {K : Frag} {p : Program}
theorem enterKc {A : Around} {R : Result → Shared → Prop} {s : Shared} {name qual : Str} {params : Arguments} {body : List Stmt} {scope : Scope} {dV kV doc pm cdv ct oc : Value} {an od : Option Addr} {osl : Array (Option Value)} {f : Addr} {vs : List Value}
    (binds : List (Str × Value))
    (X : K.In s.heap) (T : Top p loose mean mg mb s.heap)
    (ho : K.lookup f = some ⟨oc, od, .func (fnOf name qual params body scope dV kV doc pm an cdv ct), osl⟩) (hcd : codeIn K cdv qual = true) {d u : Nat} (hA : AOk A (d + 1) (u + 3))
    (hbind : bindArgs (fnOf name qual params body scope dV kV doc pm an cdv ct) ⟨vs, []⟩ = pure binds) (hloc : (binds.all fun x => decide (scope.names.lookup x.1 = some .local)) = true)
    (h : ∀ L h₁, Fr s.heap L h₁ (fun y => binds.reverse.lookup y) → News s.heap L h₁ [] → AOk (A.deeper (envOf qual scope L f cdv)) d u →
      wpAny (model prog w) (A.deeper (envOf qual scope L f cdv)) (execs body (envOf qual scope L f cdv))
        (fun fl s' => R (.ok (.ret (match fl with | .ret v => v | _ => .none))) s') (fun _ _ => False)
        { s with heap := h₁, toks := s.toks + binds.length })
    (hco : scope.isCoroutine = false) (hgen : scope.isGenerator = false) (hk : scope.kind = .function)
    (hcell : ∀ x ∈ scope.names, x.2 ≠ .cell) : codeAny (model prog w) A (.call (.ref f) ⟨vs, []⟩) R s := by
  refine codeAny_call_def (fd := fnOf name qual params body scope dV kV doc pm an cdv ct) (body := body) (binds := binds) hA.room (X _ _ ho) rfl T.nolimit (codeRec_of X hcd) rfl (BindsTo.of_eq hbind) hcell (locs hloc) (fun h₁ hns hk₁ => ?_) hco hgen hk
  exact wpAny_mono (h s.heap.objs.size h₁ ⟨hns, hk₁, Nat.le_refl _⟩ News.nil hA.deep) (fun _ _ x => x) fun _ _ x => x.elim
end
end Mine
namespace Mine
theorem AOk.make {A : Around} {d u : Nat} {C : Addr} {vals : List Value} (h : AOk A (d + 1) (u + 1)) : AOk (A.under (.builtin "type.__call__" ⟨.ref C :: vals, []⟩)) d u where
  hd := h.hd
  dp := by have := h.dp; rw [depth_under_make]; omega
  un := by have := h.un; rw [units_under_make]; omega
end Mine
namespace Mine
/-- the objects at some addresses, as a ledger's tail -/
def objsAt (h : Heap) (l : List Addr) : List (Addr × Obj) := l.map fun a => (a, (h.get? a).getD (tupObj []))
theorem objsAt_news {h₀ h : Heap} {L : Addr} {l : List Addr} (hl : ∀ a ∈ l, ∃ o, h.get? a = some o) (hf : ∀ a ∈ l, h₀.get? a = none ∧ a ≠ L) : News h₀ L h (objsAt h l) := fun p hp => by
  obtain ⟨a, ha, rfl⟩ := List.mem_map.mp hp
  obtain ⟨o, ho⟩ := hl a ha
  exact ⟨by rw [ho]; rfl, (hf a ha).2, (hf a ha).1⟩
theorem objsAt_get {h₀ h h' : Heap} {L : Addr} {l : List Addr} {news : List (Addr × Obj)} (N : News h₀ L h' news) (hs : ∀ p ∈ objsAt h l, p ∈ news) (hl : ∀ a ∈ l, ∃ o, h.get? a = some o) : ∀ a ∈ l, h'.get? a = h.get? a := fun a ha => by
  obtain ⟨o, ho⟩ := hl a ha
  have := (N _ (hs (a, (h.get? a).getD (tupObj [])) (List.mem_map.mpr ⟨a, ha, rfl⟩))).1
  rw [ho] at this ⊢
  exact this
end Mine
end
section
open PySem PySem.W PySem.Calls PyProof.Rows
namespace Mine
/-! ## trees that change -/
theorem all_push (ad : TAd) (p : Plc) : ({ ad with ps := ad.ps ++ [p] } : TAd).all = ad.all ++ p.all := by
  unfold TAd.all
  simp
theorem TreeAt.push {g g' : Addr → Option Obj} {T : List RowD} {ad : TAd} {R : RowD} {p : Plc} {n : Nat} (h : TreeAt g T ad) (e : ∀ a ∈ ad.all, a ≠ ad.rl → g' a = g a) (hrl : g' ad.rl = some (listOf ((ad.ps.map fun p => Value.ref p.r) ++ [Value.ref p.r]).toArray n))
    (hR : RowAt g' R p) (hpn : p.all.Nodup) (hf : ∀ a ∈ p.all, a ∉ ad.all) (hz : T.length + 1 ≤ 100) (hk : R.kids.length ≤ 100 ∧ R.atts.length ≤ 100 ∧ R.nss.length ≤ 100) : TreeAt g' (T ++ [R]) { ad with ps := ad.ps ++ [p] } where
  inst := (e _ (.head _) (TAd.t_ne h.nodup).2.1).trans h.inst
  dict := by
    obtain ⟨a, b, c, d⟩ := h.dict
    exact ⟨a, b, c, (e _ (.tail _ (.head _)) (TAd.t_ne h.nodup).2.2).trans d⟩
  rows := ⟨n, by rw [hrl]; simp⟩
  len := by simp [h.len]
  row := fun i R' p' h1 h2 => by
    by_cases hi : i < T.length
    · rw [List.getElem?_append_left hi] at h1
      rw [List.getElem?_append_left (by rw [h.len]; exact hi)] at h2
      refine (h.row i R' p' h1 h2).congr fun a ha => e a (TAd.mem_all h2 a ha) fun q => ?_
      have hn := h.nodup
      unfold TAd.all at hn
      simp only [List.nodup_cons] at hn
      exact hn.2.2.1 (List.mem_flatMap.mpr ⟨p', List.mem_of_getElem? h2, q ▸ ha⟩)
    · have h3 := (List.getElem?_eq_some_iff.mp h1).1
      have hie : i = T.length := by simp at h3; omega
      subst hie
      rw [List.getElem?_append_right (Nat.le_refl _)] at h1
      rw [← h.len, List.getElem?_append_right (Nat.le_refl _)] at h2
      simp at h1 h2
      rw [← h1, ← h2]; exact hR
  nodup := by
    rw [all_push, List.nodup_append]
    exact ⟨h.nodup, hpn, fun a ha b hb q => hf b hb (q ▸ ha)⟩
  small := by simp; omega
  lens := fun i R' h1 => by
    rcases List.mem_append.mp (List.mem_of_getElem? h1) with hm | hm
    · obtain ⟨j, hj, rfl⟩ := List.getElem_of_mem hm
      exact h.lens j _ (by simp [hj])
    · rw [List.mem_singleton.mp hm]; exact hk
end Mine
end
section
open PySem PySem.W PySem.Calls PyProof.Rows
namespace Mine
/-! ## one row of a tree changes -/
theorem ps_parts {ad : TAd} (hn : ad.all.Nodup) {i : Nat} {p : Plc} (hp : ad.ps[i]? = some p) : ad.t ∉ p.all ∧ ad.dt ∉ p.all ∧ ad.rl ∉ p.all ∧ p.all.Nodup ∧ ∀ j q, ad.ps[j]? = some q → j ≠ i → ∀ a ∈ q.all, a ∉ p.all := by
  unfold TAd.all at hn
  simp only [List.nodup_cons, List.mem_cons, not_or] at hn
  obtain ⟨⟨_, _, h1⟩, ⟨_, h2⟩, h3, h4⟩ := hn
  have hm : ∀ a ∈ p.all, a ∈ ad.ps.flatMap Plc.all := fun a ha => List.mem_flatMap.mpr ⟨p, List.mem_of_getElem? hp, ha⟩
  obtain ⟨h5, h6⟩ := List.pairwise_flatMap.mp h4
  refine ⟨fun h => h1 (hm _ h), fun h => h2 (hm _ h), fun h => h3 (hm _ h), h5 p (List.mem_of_getElem? hp), fun j q hq hj a ha ha' => ?_⟩
  obtain ⟨li, ei⟩ := List.getElem?_eq_some_iff.mp hp
  obtain ⟨lj, ej⟩ := List.getElem?_eq_some_iff.mp hq
  rw [List.pairwise_iff_getElem] at h6
  rcases Nat.lt_or_gt_of_ne hj with hlt | hlt
  · exact h6 j i lj li hlt a (ej ▸ ha) a (ei ▸ ha') rfl
  · exact h6 i j li lj hlt a (ei ▸ ha') a (ej ▸ ha) rfl
theorem TreeAt.setRow {g g' : Addr → Option Obj} {T : List RowD} {ad : TAd} {i : Nat} {R : RowD} {p : Plc} (h : TreeAt g T ad) (hp : ad.ps[i]? = some p) (hR : RowAt g' R p) (e : ∀ a ∈ ad.all, a ∉ p.all → g' a = g a)
    (hz : R.kids.length ≤ 100 ∧ R.atts.length ≤ 100 ∧ R.nss.length ≤ 100) : TreeAt g' (T.set i R) ad := by
  obtain ⟨n1, n2, n3, n4, n5⟩ := ps_parts h.nodup hp
  refine ⟨(e _ (.head _) n1).trans h.inst, ?_, ?_, by rw [List.length_set]; exact h.len, fun j R' q h1 h2 => ?_, h.nodup, by rw [List.length_set]; exact h.small, fun j R' h1 => ?_⟩
  · obtain ⟨a, b, c, d⟩ := h.dict
    exact ⟨a, b, c, (e _ (.tail _ (.head _)) n2).trans d⟩
  · obtain ⟨a, b⟩ := h.rows
    exact ⟨a, (e _ (.tail _ (.tail _ (.head _))) n3).trans b⟩
  · rw [List.getElem?_set] at h1
    by_cases hj : i = j
    · subst hj
      rw [if_pos rfl] at h1
      split at h1
      · cases h1; rw [hp] at h2; cases h2; exact hR
      · cases h1
    · rw [if_neg hj] at h1
      exact (h.row j R' q h1 h2).congr fun a ha => e a (TAd.mem_all h2 a ha) (n5 j q h2 (Ne.symm hj) a ha)
  · rw [List.getElem?_set] at h1
    by_cases hj : i = j
    · subst hj
      rw [if_pos rfl] at h1
      split at h1
      · cases h1; exact hz
      · cases h1
    · rw [if_neg hj] at h1; exact h.lens j R' h1
theorem plc_ne {p : Plc} (h : p.all.Nodup) : p.r ≠ p.d ∧ p.r ≠ p.c ∧ p.r ≠ p.a ∧ p.r ≠ p.n ∧ p.d ≠ p.c ∧ p.d ≠ p.a ∧ p.d ≠ p.n ∧ p.c ≠ p.a ∧ p.c ≠ p.n ∧ p.a ≠ p.n := by
  unfold Plc.all at h
  simp only [List.nodup_cons, List.mem_cons, List.not_mem_nil, or_false, not_or, not_false_eq_true, List.nodup_nil, and_true] at h
  obtain ⟨⟨a, b, c, d⟩, ⟨e, f, g⟩, ⟨i, j⟩, k⟩ := h
  exact ⟨a, b, c, d, e, f, g, i, j, k⟩
section
variable {g g' : Addr → Option Obj} {R : RowD} {p : Plc} {l : List Nat}
theorem RowAt.kidsTo (h : RowAt g R p) (hn : p.all.Nodup) (hk : IntL g' p.c l) (e : ∀ a ∈ p.all, a ≠ p.c → g' a = g a) : RowAt g' { R with kids := l } p := by
  obtain ⟨n1, n2, n3, n4, n5, n6, n7, n8, n9, n10⟩ := plc_ne hn
  refine ⟨(e _ (by simp [Plc.all]) n2).trans h.inst, ?_, hk, h.atts.congr (e _ (by simp [Plc.all]) (Ne.symm n8)), h.nss.congr (e _ (by simp [Plc.all]) (Ne.symm n9))⟩
  obtain ⟨es, n, h1, h2⟩ := h.dict
  exact ⟨es, n, (e _ (by simp [Plc.all]) n5).trans h1, ⟨h2.1, h2.2, h2.3, h2.4, h2.5, h2.6, h2.7, h2.8, h2.9, h2.10⟩⟩
theorem RowAt.attsTo (h : RowAt g R p) (hn : p.all.Nodup) (hk : IntL g' p.a l) (e : ∀ a ∈ p.all, a ≠ p.a → g' a = g a) : RowAt g' { R with atts := l } p := by
  obtain ⟨n1, n2, n3, n4, n5, n6, n7, n8, n9, n10⟩ := plc_ne hn
  refine ⟨(e _ (by simp [Plc.all]) n3).trans h.inst, ?_, h.kids.congr (e _ (by simp [Plc.all]) n8), hk, h.nss.congr (e _ (by simp [Plc.all]) (Ne.symm n10))⟩
  obtain ⟨es, n, h1, h2⟩ := h.dict
  exact ⟨es, n, (e _ (by simp [Plc.all]) n6).trans h1, ⟨h2.1, h2.2, h2.3, h2.4, h2.5, h2.6, h2.7, h2.8, h2.9, h2.10⟩⟩
theorem RowAt.nssTo (h : RowAt g R p) (hn : p.all.Nodup) (hk : IntL g' p.n l) (e : ∀ a ∈ p.all, a ≠ p.n → g' a = g a) : RowAt g' { R with nss := l } p := by
  obtain ⟨n1, n2, n3, n4, n5, n6, n7, n8, n9, n10⟩ := plc_ne hn
  refine ⟨(e _ (by simp [Plc.all]) n4).trans h.inst, ?_, h.kids.congr (e _ (by simp [Plc.all]) n9), h.atts.congr (e _ (by simp [Plc.all]) n10), hk⟩
  obtain ⟨es, n, h1, h2⟩ := h.dict
  exact ⟨es, n, (e _ (by simp [Plc.all]) n7).trans h1, ⟨h2.1, h2.2, h2.3, h2.4, h2.5, h2.6, h2.7, h2.8, h2.9, h2.10⟩⟩
theorem RowAt.entTo {R' : RowD} {es' : List DictEntry} {n' : Nat} (h : RowAt g R p) (hn : p.all.Nodup) (hd : g' p.d = some (dictOf es' n')) (hE : Entries es' R' p) (e : ∀ a ∈ p.all, a ≠ p.d → g' a = g a)
    (h1 : R'.kids = R.kids) (h2 : R'.atts = R.atts) (h3 : R'.nss = R.nss) : RowAt g' R' p := by
  obtain ⟨n1, n2, n3, n4, n5, n6, n7, n8, n9, n10⟩ := plc_ne hn
  exact ⟨(e _ (by simp [Plc.all]) n1).trans h.inst, ⟨es', n', hd, hE⟩, by rw [h1]; exact h.kids.congr (e _ (by simp [Plc.all]) (Ne.symm n5)), by rw [h2]; exact h.atts.congr (e _ (by simp [Plc.all]) (Ne.symm n6)), by rw [h3]; exact h.nss.congr (e _ (by simp [Plc.all]) (Ne.symm n7))⟩
end
/-! a name's place in a dict of names is written -/
structure EntUpd (name : Str) (v : Value) (es es' : List DictEntry) : Prop where
  len : es'.length = es.length
  own : getL name es' = some (some v)
  oth : ∀ y x, (∀ k : Value, k.isStr name = true → k.isStr y = false) → getL y es = some (some x) → getL y es' = some (some x)
theorem getL_find {name : Str} {es : List DictEntry} {x : Value} : getL name es = some (some x) ↔ ∃ e, es.find? (·.key.isStr name) = some e ∧ e.val = x := by
  unfold getL
  cases h : es.find? (·.key.isStr name) with
  | none => simp
  | some e => simp
theorem putL_upd {name : Str} {hsh : Int} {key v : Value} : ∀ {es : List DictEntry}, (es.any (·.key.isStr name)) = true → EntUpd name v es (putL name hsh key v es)
  | [], h => by cases h
  | e :: r, h => by
    by_cases q : e.key.isStr name = true
    · have : putL name hsh key v (e :: r) = ⟨e.hash, e.key, v⟩ :: r := by simp [putL, q]
      rw [this]
      refine ⟨rfl, getL_find.mpr ⟨⟨e.hash, e.key, v⟩, by simp [List.find?_cons, q], rfl⟩, fun y x hy hx => ?_⟩
      have hq := hy e.key q
      obtain ⟨e', h1, h2⟩ := getL_find.mp hx
      refine getL_find.mpr ⟨e', ?_, h2⟩
      rw [List.find?_cons] at h1 ⊢
      simp only [hq] at h1 ⊢
      exact h1
    · have hp : putL name hsh key v (e :: r) = e :: putL name hsh key v r := by simp [putL, q]
      have h' : (r.any (·.key.isStr name)) = true := by simpa [q] using h
      have ih := putL_upd (hsh := hsh) (key := key) (v := v) h'
      rw [hp]
      refine ⟨by simp [ih.len], ?_, fun y x hy hx => ?_⟩
      · obtain ⟨e', h1, h2⟩ := getL_find.mp ih.own
        exact getL_find.mpr ⟨e', by rw [List.find?_cons]; simp only [q]; exact h1, h2⟩
      · obtain ⟨e', h1, h2⟩ := getL_find.mp hx
        rw [List.find?_cons] at h1
        cases hy' : e.key.isStr y with
        | true =>
          simp only [hy'] at h1
          exact getL_find.mpr ⟨e', by rw [List.find?_cons]; simp only [hy']; exact h1, h2⟩
        | false =>
          simp only [hy'] at h1
          obtain ⟨e2, h3, h4⟩ := getL_find.mp (ih.oth y x hy (getL_find.mpr ⟨e', h1, h2⟩))
          exact getL_find.mpr ⟨e2, by rw [List.find?_cons]; simp only [hy']; exact h3, h4⟩
theorem isStr_ne {n y : Str} (h : (n == y) = false) : ∀ k : Value, k.isStr n = true → k.isStr y = false := by
  intro k hk
  unfold Value.isStr at hk ⊢
  split at hk
  · have := eq_of_beq hk
    subst this
    exact h
  · cases hk
theorem Entries.toName {es es' : List DictEntry} {R : RowD} {p : Plc} {x : Str} {t : Tok} (h : Entries es R p) (u : EntUpd "name" (.str x t) es es') : Entries es' { R with name := x } p := by
  refine ⟨?_, ⟨t, u.own⟩, ?_, ?_, ?_, ?_, u.oth _ _ (isStr_ne (by decide)) h.kids, u.oth _ _ (isStr_ne (by decide)) h.atts, u.oth _ _ (isStr_ne (by decide)) h.nss, u.len.trans h.len⟩
  · obtain ⟨a, b⟩ := h.kind; exact ⟨a, u.oth _ _ (isStr_ne (by decide)) b⟩
  · obtain ⟨a, b⟩ := h.uri; exact ⟨a, u.oth _ _ (isStr_ne (by decide)) b⟩
  · obtain ⟨a, b⟩ := h.loc; exact ⟨a, u.oth _ _ (isStr_ne (by decide)) b⟩
  · obtain ⟨a, b⟩ := h.value; exact ⟨a, u.oth _ _ (isStr_ne (by decide)) b⟩
  · obtain ⟨a, b, c⟩ := h.parent; exact ⟨a, b, u.oth _ _ (isStr_ne (by decide)) c⟩
theorem Entries.toValue {es es' : List DictEntry} {R : RowD} {p : Plc} {x : Str} {t : Tok} (h : Entries es R p) (u : EntUpd "value" (.str x t) es es') : Entries es' { R with value := x } p := by
  refine ⟨?_, ?_, ?_, ?_, ⟨t, u.own⟩, ?_, u.oth _ _ (isStr_ne (by decide)) h.kids, u.oth _ _ (isStr_ne (by decide)) h.atts, u.oth _ _ (isStr_ne (by decide)) h.nss, u.len.trans h.len⟩
  · obtain ⟨a, b⟩ := h.kind; exact ⟨a, u.oth _ _ (isStr_ne (by decide)) b⟩
  · obtain ⟨a, b⟩ := h.name; exact ⟨a, u.oth _ _ (isStr_ne (by decide)) b⟩
  · obtain ⟨a, b⟩ := h.uri; exact ⟨a, u.oth _ _ (isStr_ne (by decide)) b⟩
  · obtain ⟨a, b⟩ := h.loc; exact ⟨a, u.oth _ _ (isStr_ne (by decide)) b⟩
  · obtain ⟨a, b, c⟩ := h.parent; exact ⟨a, b, u.oth _ _ (isStr_ne (by decide)) c⟩
theorem Entries.toParent {es es' : List DictEntry} {R : RowD} {p : Plc} {v : Value} {o : Option Nat} (h : Entries es R p) (u : EntUpd "parent" v es es') (hv : ParV v o) : Entries es' { R with parent := o } p := by
  refine ⟨?_, ?_, ?_, ?_, ?_, ⟨v, hv, u.own⟩, u.oth _ _ (isStr_ne (by decide)) h.kids, u.oth _ _ (isStr_ne (by decide)) h.atts, u.oth _ _ (isStr_ne (by decide)) h.nss, u.len.trans h.len⟩
  · obtain ⟨a, b⟩ := h.kind; exact ⟨a, u.oth _ _ (isStr_ne (by decide)) b⟩
  · obtain ⟨a, b⟩ := h.name; exact ⟨a, u.oth _ _ (isStr_ne (by decide)) b⟩
  · obtain ⟨a, b⟩ := h.uri; exact ⟨a, u.oth _ _ (isStr_ne (by decide)) b⟩
  · obtain ⟨a, b⟩ := h.loc; exact ⟨a, u.oth _ _ (isStr_ne (by decide)) b⟩
  · obtain ⟨a, b⟩ := h.value; exact ⟨a, u.oth _ _ (isStr_ne (by decide)) b⟩
end Mine
namespace Mine
section
variable {prog : Program} {w : World} {A : Around} {E : Value → Shared → Prop} {s : Shared} {h₀ : Heap} {L : Addr} {m : Str → Option Value} {news : List (Addr × Obj)} {T : List RowD} {ad : TAd}
theorem tree_led {D : Addr} {o : Obj} (N : News h₀ L s.heap news) (hoff : OffB h₀ L ad.all) (hn : ∀ q ∈ news, q.1 ∉ ad.all) (hT : TreeH s.heap T ad) (hD : D ∈ ad.all) (ho : s.heap.get? D = some o) :
    ∃ tl, News h₀ L s.heap ((D, o) :: tl) ∧ (∀ q ∈ tl, q.1 ≠ D) ∧ ∀ h' o', News h₀ L h' ((D, o') :: tl) → h'.get? D = some o' ∧ (∀ a ∈ ad.all, a ≠ D → h'.get? a = s.heap.get? a) ∧ News h₀ L h' news := by
  have hl : ∀ a ∈ ad.all.filter (· ≠ D), ∃ o, s.heap.get? a = some o := fun a ha => hT.live a (List.mem_filter.mp ha).1
  refine ⟨objsAt s.heap (ad.all.filter (· ≠ D)) ++ news, fun q hq => ?_, fun q hq => ?_, fun h' o' N' => ⟨N'.get (.head _), fun a ha hne => ?_, fun q hq => N' q (.tail _ (List.mem_append.mpr (.inr hq)))⟩⟩
  · rcases List.mem_cons.mp hq with rfl | hq
    · exact ⟨ho, (hoff D hD).2, (hoff D hD).1⟩
    rcases List.mem_append.mp hq with hq | hq
    · exact objsAt_news hl (fun a ha => hoff a (List.mem_filter.mp ha).1) q hq
    · exact N q hq
  · rcases List.mem_append.mp hq with hq | hq
    · obtain ⟨a, ha, rfl⟩ := List.mem_map.mp hq
      simpa using (List.mem_filter.mp ha).2
    · exact fun e => hn q hq (e ▸ hD)
  · exact objsAt_get N' (fun q hq => .tail _ (List.mem_append.mpr (.inl hq))) hl a (List.mem_filter.mpr ⟨ha, by simpa using hne⟩)
variable {i : Nat} {R : RowD} {p : Plc}
theorem plc_in {ad : TAd} {i : Nat} {p : Plc} (hp : ad.ps[i]? = some p) : p.r ∈ ad.all ∧ p.d ∈ ad.all ∧ p.c ∈ ad.all ∧ p.a ∈ ad.all ∧ p.n ∈ ad.all := by
  have := TAd.mem_all hp
  exact ⟨this _ (by simp [Plc.all]), this _ (by simp [Plc.all]), this _ (by simp [Plc.all]), this _ (by simp [Plc.all]), this _ (by simp [Plc.all])⟩
theorem outside {g g' : Addr → Option Obj} {D : Addr} (hD : D ∈ p.all) (e : ∀ a ∈ ad.all, a ≠ D → g' a = g a) : ∀ a ∈ ad.all, a ∉ p.all → g' a = g a := fun a ha h => e a ha fun q => h (q ▸ hD)
theorem t_app_kids {n : Nat} {t : Tok} {Q : Value → Shared → Prop} (F : Fr h₀ L s.heap m) (N : News h₀ L s.heap news) (hoff : OffB h₀ L ad.all) (hn : ∀ q ∈ news, q.1 ∉ ad.all) (hT : TreeH s.heap T ad) (hi : T[i]? = some R) (hp : ad.ps[i]? = some p) (hz : R.kids.length + 1 ≤ 100)
    (k : ∀ h', Fr h₀ L h' m → News h₀ L h' news → TreeH h' (T.set i { R with kids := R.kids ++ [n] }) ad → Q .none { s with heap := h' }) : wpAny (model prog w) A (call (.builtin "list.append") [.ref p.c, .int (n : Nat) t]) Q E s := by
  have hR := hT.row i R p hi hp
  obtain ⟨vs, c, h1, h2⟩ := hR.kids
  have hl := hT.lens i R hi
  have h3 := h2.length
  have h4 := natInts_length R.kids
  obtain ⟨tl, N1, hne, hk⟩ := tree_led N hoff hn hT (plc_in hp).2.2.1 h1
  refine append_K F N1 (.head hne) (fun h' F' N' => ?_) (by rw [sizeLine_eq]; simp; omega)
  obtain ⟨g1, g2, g3⟩ := hk h' _ N'
  refine k h' F' g3 (hT.setRow hp (hR.kidsTo (ps_parts hT.nodup hp).2.2.2.1 ⟨vs ++ [.int (n : Nat) t], c + 1, by rw [g1]; simp, ints_snoc h2⟩ fun a ha => g2 a (TAd.mem_all hp a ha)) (outside (by simp [Plc.all]) g2) ⟨by simpa using hz, hl.2⟩)
theorem t_app_atts {n : Nat} {t : Tok} {Q : Value → Shared → Prop} (F : Fr h₀ L s.heap m) (N : News h₀ L s.heap news) (hoff : OffB h₀ L ad.all) (hn : ∀ q ∈ news, q.1 ∉ ad.all) (hT : TreeH s.heap T ad) (hi : T[i]? = some R) (hp : ad.ps[i]? = some p) (hz : R.atts.length + 1 ≤ 100)
    (k : ∀ h', Fr h₀ L h' m → News h₀ L h' news → TreeH h' (T.set i { R with atts := R.atts ++ [n] }) ad → Q .none { s with heap := h' }) : wpAny (model prog w) A (call (.builtin "list.append") [.ref p.a, .int (n : Nat) t]) Q E s := by
  have hR := hT.row i R p hi hp
  obtain ⟨vs, c, h1, h2⟩ := hR.atts
  have hl := hT.lens i R hi
  have h3 := h2.length
  have h4 := natInts_length R.atts
  obtain ⟨tl, N1, hne, hk⟩ := tree_led N hoff hn hT (plc_in hp).2.2.2.1 h1
  refine append_K F N1 (.head hne) (fun h' F' N' => ?_) (by rw [sizeLine_eq]; simp; omega)
  obtain ⟨g1, g2, g3⟩ := hk h' _ N'
  refine k h' F' g3 (hT.setRow hp (hR.attsTo (ps_parts hT.nodup hp).2.2.2.1 ⟨vs ++ [.int (n : Nat) t], c + 1, by rw [g1]; simp, ints_snoc h2⟩ fun a ha => g2 a (TAd.mem_all hp a ha)) (outside (by simp [Plc.all]) g2) ⟨hl.1, by simpa using hz, hl.2.2⟩)
theorem t_app_nss {n : Nat} {t : Tok} {Q : Value → Shared → Prop} (F : Fr h₀ L s.heap m) (N : News h₀ L s.heap news) (hoff : OffB h₀ L ad.all) (hn : ∀ q ∈ news, q.1 ∉ ad.all) (hT : TreeH s.heap T ad) (hi : T[i]? = some R) (hp : ad.ps[i]? = some p) (hz : R.nss.length + 1 ≤ 100)
    (k : ∀ h', Fr h₀ L h' m → News h₀ L h' news → TreeH h' (T.set i { R with nss := R.nss ++ [n] }) ad → Q .none { s with heap := h' }) : wpAny (model prog w) A (call (.builtin "list.append") [.ref p.n, .int (n : Nat) t]) Q E s := by
  have hR := hT.row i R p hi hp
  obtain ⟨vs, c, h1, h2⟩ := hR.nss
  have hl := hT.lens i R hi
  have h3 := h2.length
  have h4 := natInts_length R.nss
  obtain ⟨tl, N1, hne, hk⟩ := tree_led N hoff hn hT (plc_in hp).2.2.2.2 h1
  refine append_K F N1 (.head hne) (fun h' F' N' => ?_) (by rw [sizeLine_eq]; simp; omega)
  obtain ⟨g1, g2, g3⟩ := hk h' _ N'
  refine k h' F' g3 (hT.setRow hp (hR.nssTo (ps_parts hT.nodup hp).2.2.2.1 ⟨vs ++ [.int (n : Nat) t], c + 1, by rw [g1]; simp, ints_snoc h2⟩ fun a ha => g2 a (TAd.mem_all hp a ha)) (outside (by simp [Plc.all]) g2) ⟨hl.1, hl.2.1, by simpa using hz⟩)
theorem t_ins_kids {n : Nat} {t u : Tok} {Q : Value → Shared → Prop} (F : Fr h₀ L s.heap m) (N : News h₀ L s.heap news) (hoff : OffB h₀ L ad.all) (hn : ∀ q ∈ news, q.1 ∉ ad.all) (hT : TreeH s.heap T ad) (hi : T[i]? = some R) (hp : ad.ps[i]? = some p) (hz : R.kids.length + 1 ≤ 100)
    (k : ∀ h', Fr h₀ L h' m → News h₀ L h' news → TreeH h' (T.set i { R with kids := n :: R.kids }) ad → Q .none { s with heap := h' }) : wpAny (model prog w) A (call (.builtin "list.insert") [.ref p.c, .int 0 u, .int (n : Nat) t]) Q E s := by
  have hR := hT.row i R p hi hp
  obtain ⟨vs, c, h1, h2⟩ := hR.kids
  have hl := hT.lens i R hi
  have h3 := h2.length
  have h4 := natInts_length R.kids
  obtain ⟨tl, N1, hne, hk⟩ := tree_led N hoff hn hT (plc_in hp).2.2.1 h1
  refine kl_insert F N1 (by decide) (l := .int (n : Nat) t :: vs) (by simp [kl_ins]) (.head hne) (by rw [sizeLine_eq]; simp; omega) (fun h' F' N' => ?_)
  obtain ⟨g1, g2, g3⟩ := hk h' _ N'
  refine k h' F' g3 (hT.setRow hp (hR.kidsTo (ps_parts hT.nodup hp).2.2.2.1 ⟨.int (n : Nat) t :: vs, c + 1, by rw [g1], .cons _ _ h2⟩ fun a ha => g2 a (TAd.mem_all hp a ha)) (outside (by simp [Plc.all]) g2) ⟨by simpa using hz, hl.2⟩)
theorem ints_del {n : Nat} : ∀ {l : List Nat} {vs : List Value}, IntsAre vs (natInts l) → n ∈ l → kf_ints vs = true ∧ ∃ j q, kf_at (n : Nat) vs = some j ∧ ki_delL vs j = some q ∧ IntsAre q (natInts (l.erase n))
  | [], _, _, h => by cases h
  | a :: l, _, .cons _ t h', h => by
    have hf : ∀ {l : List Nat} {vs : List Value}, IntsAre vs (natInts l) → kf_ints vs = true := by
      intro l
      induction l with
      | nil => intro vs h; cases h; rfl
      | cons a l ih => intro vs h; cases h with | cons _ _ h' => have := ih h'; exact this
    have hf' := hf h'
    refine ⟨hf', ?_⟩
    by_cases q : a = n
    · subst q
      refine ⟨0, _, ?_, rfl, by rw [List.erase_cons_head]; exact h'⟩
      simp [kf_at, isInt]
    · have hm : n ∈ l := by rcases List.mem_cons.mp h with e | e; exact absurd e.symm q; exact e
      obtain ⟨_, j, qs, h1, h2, h3⟩ := ints_del h' hm
      have hne : isInt (n : Int) (.int (a : Int) t) = false := by simp [isInt]; omega
      refine ⟨j + 1, .int (a : Int) t :: qs, ?_, ?_, ?_⟩
      · simp [kf_at, hne, h1]
      · simp [ki_delL, h2]
      · rw [List.erase_cons_tail (by simpa using q)]
        exact .cons _ _ h3
theorem t_rem_kids {n : Nat} {t : Tok} {Q : Value → Shared → Prop} (F : Fr h₀ L s.heap m) (N : News h₀ L s.heap news) (hoff : OffB h₀ L ad.all) (hn : ∀ q ∈ news, q.1 ∉ ad.all) (hT : TreeH s.heap T ad) (hi : T[i]? = some R) (hp : ad.ps[i]? = some p) (hm : n ∈ R.kids)
    (k : ∀ h', Fr h₀ L h' m → News h₀ L h' news → TreeH h' (T.set i { R with kids := R.kids.erase n }) ad → Q .none { s with heap := h' }) : wpAny (model prog w) A (call (.builtin "list.remove") [.ref p.c, .int (n : Nat) t]) Q E s := by
  have hR := hT.row i R p hi hp
  obtain ⟨vs, c, h1, h2⟩ := hR.kids
  have hl := hT.lens i R hi
  have h3 := h2.length
  have h4 := natInts_length R.kids
  obtain ⟨hf, j, q, e1, e2, e3⟩ := ints_del h2 hm
  obtain ⟨tl, N1, hne, hk⟩ := tree_led N hoff hn hT (plc_in hp).2.2.1 h1
  refine kf_remove F N1 (by simpa using hf) (by simpa using e1) (by simpa using e2) (.head hne) (by rw [sizeLine_eq]; simp; omega) (fun h' F' N' => ?_)
  obtain ⟨g1, g2, g3⟩ := hk h' _ N'
  refine k h' F' g3 (hT.setRow hp (hR.kidsTo (ps_parts hT.nodup hp).2.2.2.1 ⟨q, c + 1, g1, e3⟩ fun a ha => g2 a (TAd.mem_all hp a ha)) (outside (by simp [Plc.all]) g2) ⟨?_, hl.2⟩)
  have := List.length_erase_le (a := n) (l := R.kids)
  show (R.kids.erase n).length ≤ 100
  omega
end
end Mine
end
section
open PySem PySem.W PySem.Calls PyProof.Rows
namespace Mine
section
variable {prog : Program} {w : World} {loose : List Str} {mean : ExcName → Option Value} {mg mb : Str → Option Value} {A : Around} {E : Value → Shared → Prop} {s : Shared} {h₀ : Heap} {L : Addr} {m : Str → Option Value} {news : List (Addr × Obj)} {T : List RowD} {ad : TAd} {i : Nat} {R : RowD} {p : Plc}
theorem getL_any {name : Str} {es : List DictEntry} {x : Value} (h : getL name es = some (some x)) : es.any (·.key.isStr name) = true := by
  obtain ⟨e, h1, h2⟩ := getL_find.mp h
  have h3 := List.mem_of_find?_eq_some h1
  have h4 := List.find?_some h1
  exact List.any_eq_true.mpr ⟨e, h3, h4⟩
theorem t_set {name : Str} {v : Value} {R' : RowD} {Q : Unit → Shared → Prop} (F : Fr h₀ L s.heap m) (N : News h₀ L s.heap news) (X : (Mine.hd.heap_39 w.params).In h₀) (hoff : OffB h₀ L ad.all) (hn : ∀ q ∈ news, q.1 ∉ ad.all) (hT : TreeH s.heap T ad) (hi : T[i]? = some R) (hp : ad.ps[i]? = some p)
    (hs : findIn (Mine.hd.heap_39 w.params) (.ref 124) "__setattr__" = some (some (.builtin "object.__setattr__"))) (hpo : plainOver (Mine.hd.heap_39 w.params) 124 = true) (ht : takerIn (Mine.hd.heap_39 w.params) 124 name = some none) (hh : hasDictIn (Mine.hd.heap_39 w.params) 124 = true)
    (hx : ∀ es, Entries es R p → ∃ x, getL name es = some (some x)) (hE : ∀ es es', Entries es R p → EntUpd name v es es' → Entries es' R' p) (h1 : R'.kids = R.kids) (h2 : R'.atts = R.atts) (h3 : R'.nss = R.nss)
    (k : ∀ h' tk, Fr h₀ L h' m → News h₀ L h' news → TreeH h' (T.set i R') ad → Q () { s with heap := h', toks := tk }) : wpAny (model prog w) A (setAttr (.ref p.r) name v) Q E s := by
  have hR := hT.row i R p hi hp
  obtain ⟨es, n, hd, hes⟩ := hR.dict
  obtain ⟨x, hx⟩ := hx es hes
  obtain ⟨tl, N1, hne, hk⟩ := tree_led N hoff hn hT (plc_in hp).2.1 hd
  have u := putL_upd (hsh := PyData.keyHash w.params name) (key := .str name (s.toks + 1)) (v := v) (getL_any hx)
  refine set_dict F X N1 (I := ⟨hR.inst, rfl, rfl, hd⟩) rfl hs hpo ht hh (by rw [hx]; rfl) rfl (.head hne) (by rw [u.len, hes.len]; omega) (fun h' F' N' => ?_)
  obtain ⟨g1, g2, g3⟩ := hk h' _ N'
  refine k h' _ F' g3 (hT.setRow hp (hR.entTo (ps_parts hT.nodup hp).2.2.2.1 g1 (hE _ _ hes u) (fun a ha => g2 a (TAd.mem_all hp a ha)) h1 h2 h3) (outside (by simp [Plc.all]) g2) (by rw [h1, h2, h3]; exact hT.lens i R hi))
theorem t_set_name {x : Str} {t : Tok} {Q : Unit → Shared → Prop} (F : Fr h₀ L s.heap m) (N : News h₀ L s.heap news) (X : (Mine.hd.heap_39 w.params).In h₀) (hoff : OffB h₀ L ad.all) (hn : ∀ q ∈ news, q.1 ∉ ad.all) (hT : TreeH s.heap T ad) (hi : T[i]? = some R) (hp : ad.ps[i]? = some p)
    (k : ∀ h' tk, Fr h₀ L h' m → News h₀ L h' news → TreeH h' (T.set i { R with name := x }) ad → Q () { s with heap := h', toks := tk }) : wpAny (model prog w) A (setAttr (.ref p.r) "name" (.str x t)) Q E s := by
  refine' t_set F N X hoff hn hT hi hp ?a ?b ?c ?d (fun es h => by obtain ⟨t, q⟩ := h.name; exact ⟨_, q⟩) (fun es es' h u => h.toName u) rfl rfl rfl k
  case a => k_dflt k_is
  case b => k_dflt k_is
  case c => k_dflt k_is
  case d => k_dflt k_is
theorem t_set_value {x : Str} {t : Tok} {Q : Unit → Shared → Prop} (F : Fr h₀ L s.heap m) (N : News h₀ L s.heap news) (X : (Mine.hd.heap_39 w.params).In h₀) (hoff : OffB h₀ L ad.all) (hn : ∀ q ∈ news, q.1 ∉ ad.all) (hT : TreeH s.heap T ad) (hi : T[i]? = some R) (hp : ad.ps[i]? = some p)
    (k : ∀ h' tk, Fr h₀ L h' m → News h₀ L h' news → TreeH h' (T.set i { R with value := x }) ad → Q () { s with heap := h', toks := tk }) : wpAny (model prog w) A (setAttr (.ref p.r) "value" (.str x t)) Q E s := by
  refine' t_set F N X hoff hn hT hi hp ?a ?b ?c ?d (fun es h => by obtain ⟨t, q⟩ := h.value; exact ⟨_, q⟩) (fun es es' h u => h.toValue u) rfl rfl rfl k
  case a => k_dflt k_is
  case b => k_dflt k_is
  case c => k_dflt k_is
  case d => k_dflt k_is
theorem t_set_parent {v : Value} {o : Option Nat} {Q : Unit → Shared → Prop} (F : Fr h₀ L s.heap m) (N : News h₀ L s.heap news) (X : (Mine.hd.heap_39 w.params).In h₀) (hoff : OffB h₀ L ad.all) (hn : ∀ q ∈ news, q.1 ∉ ad.all) (hT : TreeH s.heap T ad) (hi : T[i]? = some R) (hp : ad.ps[i]? = some p) (hv : ParV v o)
    (k : ∀ h' tk, Fr h₀ L h' m → News h₀ L h' news → TreeH h' (T.set i { R with parent := o }) ad → Q () { s with heap := h', toks := tk }) : wpAny (model prog w) A (setAttr (.ref p.r) "parent" v) Q E s := by
  refine' t_set F N X hoff hn hT hi hp ?a ?b ?c ?d (fun es h => by obtain ⟨t, _, q⟩ := h.parent; exact ⟨_, q⟩) (fun es es' h u => h.toParent u hv) rfl rfl rfl k
  case a => k_dflt k_is
  case b => k_dflt k_is
  case c => k_dflt k_is
  case d => k_dflt k_is
/-- the tree stands on the ledger -/
theorem tree_now {h h' : Heap} (hT : TreeH h T ad) (N : News h₀ L h' news) (hs : ∀ p ∈ objsAt h ad.all, p ∈ news) : TreeH h' T ad := hT.congr (objsAt_get N hs hT.live)
theorem tree_led0 {h : Heap} (hT : TreeH h T ad) (hoff : OffB h₀ L ad.all) : News h₀ L h (objsAt h ad.all) := objsAt_news hT.live hoff
theorem row_at {g : Addr → Option Obj} (h2 : ad.ps[i]? = some p) (h1 : T[i]? = some R) (h : TreeAt g T ad) : RowAt g R p := h.row i R p h1 h2
/-! ## changes of a tree as contracts -/
def MutT (prog : Program) (w : World) (loose : List Str) (mean : ExcName → Option Value) (mg mb : Str → Option Value) (f : Addr) (vs : List Value) (d u : Nat) (T : List RowD) (ad : TAd) (post : Value → List RowD → Prop) : Prop :=
  Muts prog w loose mean mg mb f vs d u ad.all (fun h => TreeH h T ad) (fun h v h' => ∃ T' ad', TreeH h' T' ad' ∧ ad'.t = ad.t ∧ (∀ a ∈ ad'.all, a ∈ ad.all ∨ h.get? a = none) ∧ (∀ (i : Nat) (p : Plc), ad.ps[i]? = some p → ad'.ps[i]? = some p) ∧ post v T')
theorem Muts.mono {f : Addr} {vs : List Value} {d u : Nat} {foot foot' : List Addr} {pre : Heap → Prop} {post post' : Heap → Value → Heap → Prop} (S : Muts prog w loose mean mg mb f vs d u foot pre post) (hs : ∀ a ∈ foot, a ∈ foot') (hp : ∀ h v h', pre h → post h v h' → post' h v h') :
    Muts prog w loose mean mg mb f vs d u foot' pre post' := fun A s Q E hA T X hpre ret => by
  have e : ∀ a o, (hideAll s.heap foot').get? a = some o → (hideAll s.heap foot).get? a = some o := fun a o h => hideAll_get _ (of_hideAll _ h) fun ha => by
    rw [hideAll_none _ (hs a ha)] at h; cases h
  exact S A s Q E hA (T.keeps e) (X.keeps e) hpre fun v h' tk' hm hv => ret v h' tk' (fun a o ha hn => hm a o ha fun q => hn (hs a q)) (hp _ _ _ hpre hv)
theorem off_grow {h : Heap} {ad ad' : TAd} (F : Fr h₀ L h m) (hoff : OffB h₀ L ad.all) (hg : ∀ a ∈ ad'.all, a ∈ ad.all ∨ h.get? a = none) : OffB h₀ L ad'.all := fun a ha => by
  rcases hg a ha with h1 | h1
  · exact hoff a h1
  · refine ⟨?_, fun q => ?_⟩
    · cases q : h₀.get? a with
      | none => rfl
      | some o => rw [F.keep _ _ q] at h1; cases h1
    · obtain ⟨oL, _, _, hL, _⟩ := F.ns
      rw [q, hL] at h1; cases h1
theorem news_grow {h : Heap} {ad ad' : TAd} (N : News h₀ L h news) (hn : ∀ q ∈ news, q.1 ∉ ad.all) (hg : ∀ a ∈ ad'.all, a ∈ ad.all ∨ h.get? a = none) : ∀ q ∈ news, q.1 ∉ ad'.all := fun q hq ha => by
  rcases hg _ ha with h1 | h1
  · exact hn q hq h1
  · rw [(N q hq).1] at h1; cases h1
theorem MutT.useT {f : Addr} {vs : List Value} {d u : Nat} {post : Value → List RowD → Prop} {Q : Value → Shared → Prop} (S : MutT prog w loose mean mg mb f vs d u T ad post)
    (F : Fr h₀ L s.heap m) (N : News h₀ L s.heap news) (X : (Mine.hd.heap_39 w.params).In h₀) (Tp : Top topProg loose mean mg mb h₀) (hoff : OffB h₀ L ad.all) (hn : ∀ q ∈ news, q.1 ∉ ad.all) (hA : AOk A d u) (hT : TreeH s.heap T ad)
    (k : ∀ v T' ad' h' tk', Fr h₀ L h' m → News h₀ L h' news → OffB h₀ L ad'.all → (∀ q ∈ news, q.1 ∉ ad'.all) → TreeH h' T' ad' → ad'.t = ad.t → (∀ a ∈ ad'.all, a ∈ ad.all ∨ s.heap.get? a = none) → (∀ (i : Nat) (p : Plc), ad.ps[i]? = some p → ad'.ps[i]? = some p) → post v T' → Q v { s with heap := h', toks := tk' }) : wpAny (model prog w) A (call (.ref f) vs) Q E s :=
  Muts.use S F N X Tp hoff hn hA hT fun v h' tk' F' N' _ ⟨T', ad', h1, h2, h3, h5, h4⟩ => k v T' ad' h' tk' F' N' (off_grow F hoff h3) (news_grow N hn h3) h1 h2 h3 h5 h4
/-- the way in, when the tree is to change -/
theorem tree_in {h₁ : Heap} {M : Str → Option Value} {L : Addr} (hT : TreeH s.heap T ad) (F : Fr s.heap L h₁ M) : Fr (hideAll s.heap ad.all) L h₁ M ∧ OffB (hideAll s.heap ad.all) L ad.all ∧ TreeH h₁ T ad :=
  ⟨hid_fr F, hid_off F hT.live, hT.ext F.keep⟩
theorem tree_fresh {h₁ : Heap} {M : Str → Option Value} {L : Addr} {ad' : TAd} (hT : TreeH s.heap T ad) (F : Fr (hideAll s.heap ad.all) L h₁ M) (hg : ∀ a ∈ ad'.all, a ∈ ad.all ∨ h₁.get? a = none) : ∀ a ∈ ad'.all, a ∈ ad.all ∨ s.heap.get? a = none := fun a ha => by
  rcases hg a ha with h1 | h1
  · exact .inl h1
  · by_cases hm : a ∈ ad.all
    · exact .inl hm
    · right
      cases q : s.heap.get? a with
      | none => rfl
      | some o => rw [F.keep _ _ (hideAll_get _ q hm)] at h1; cases h1
theorem fresh_trans {h h₁ : Heap} {a₀ a₁ a₂ : TAd} (h1 : ∀ a ∈ a₁.all, a ∈ a₀.all ∨ h.get? a = none) (h2 : ∀ a ∈ a₂.all, a ∈ a₁.all ∨ h.get? a = none) : ∀ a ∈ a₂.all, a ∈ a₀.all ∨ h.get? a = none := fun a ha => by
  rcases h2 a ha with q | q
  · exact h1 a q
  · exact .inr q
theorem MutT.conseq {f : Addr} {vs : List Value} {d u : Nat} {post post' : Value → List RowD → Prop} (S : MutT prog w loose mean mg mb f vs d u T ad post) (h : ∀ v T', post v T' → post' v T') : MutT prog w loose mean mg mb f vs d u T ad post' :=
  Muts.mono S (fun _ x => x) fun _ v h' _ ⟨T', ad', h1, h2, h3, h5, h4⟩ => ⟨T', ad', h1, h2, h3, h5, h _ _ h4⟩
end
end Mine
end
section
open PySem PySem.W PySem.Calls PyProof.Rows
namespace Mine
section
variable {prog : Program} {w : World} {A : Around} {E : Value → Shared → Prop} {s : Shared} {h₀ : Heap} {L : Addr} {m : Str → Option Value}
theorem par_obj (P : Params) : (Mine.hd.heap_39 P).lookup 106 = some { cls := .type "tuple", data := .seq #[.str (Str.ofString "root") 323, .str (Str.ofString "element") 324] } := by
  k_dflt k_is
theorem chi_obj (P : Params) : (Mine.hd.heap_39 P).lookup 107 = some { cls := .type "tuple", data := .seq #[.str (Str.ofString "element") 326, .str (Str.ofString "text") 327, .str (Str.ofString "comment") 328, .str (Str.ofString "instruction") 329] } := by
  k_dflt k_is
theorem notin_par {k : Str} {t : Tok} {Q : Value → Shared → Prop} (X : (Mine.hd.heap_39 w.params).In h₀) (F : Fr h₀ L s.heap m) (h : Q (.bool (!isPar k)) s) : wpAny (model prog w) A (compareOp .NotIn (.str k t) (.ref 106)) Q E s := by
  have ho := par_obj w.params
  refine PySem.SeqRoads2.notIn_tuple (fun y => match y with | .str a _ => a == k | _ => false) (fun y hy => ?_) (F.keep _ _ (X _ _ ho)) ?_
  · simp at hy
    rcases hy with rfl | rfl <;> exact eqGives_str _ _ _ _
  · have : (#[Value.str (Str.ofString "root") 323, Value.str (Str.ofString "element") 324].any fun y => match y with | .str a _ => a == k | _ => false) = isPar k := by
      simp [isPar]
    rw [this]; exact h
theorem notin_chi {k : Str} {t : Tok} {Q : Value → Shared → Prop} (X : (Mine.hd.heap_39 w.params).In h₀) (F : Fr h₀ L s.heap m) (hk : k = Str.ofString "element") (h : Q (.bool false) s) : wpAny (model prog w) A (compareOp .NotIn (.str k t) (.ref 107)) Q E s := by
  have ho := chi_obj w.params
  refine PySem.SeqRoads2.notIn_tuple (fun y => match y with | .str a _ => a == k | _ => false) (fun y hy => ?_) (F.keep _ _ (X _ _ ho)) ?_
  · simp at hy
    rcases hy with rfl | rfl | rfl | rfl <;> exact eqGives_str _ _ _ _
  · subst hk
    have : (#[Value.str (Str.ofString "element") 326, Value.str (Str.ofString "text") 327, Value.str (Str.ofString "comment") 328, Value.str (Str.ofString "instruction") 329].any fun y => match y with | .str a _ => a == Str.ofString "element" | _ => false) = true := by simp
    rw [this]; exact h
theorem m_ints {D : Addr} {l : List Nat} {name : Str} {id : String} {pl : Sem Bool} {Q : Value × List Value → Shared → Prop} (hl : IntL s.heap.get? D l) (slot : Slot "list" name id) (hty : typeOf (.builtin id) = pure (.type "method_descriptor"))
    (h : Q (.builtin id, [.ref D]) s) : wpAny (model prog w) A (getMethod (.ref D) name pl) Q E s := by
  obtain ⟨vs, n, h1, h2⟩ := hl
  exact getMethod_builtin ⟨_, h1, rfl⟩ PySem.F.plainAttrs_list slot hty (fun a e => by cases e; exact ⟨_, h1, rfl⟩) h
end
end Mine
end
section
open PySem PySem.W PySem.Calls PyProof.Rows
namespace Mine
/-! ## a loop over a range: a word of the turn's number -/
section
variable {prog : Program} {w : World} {A : Around} {E : Value → Shared → Prop} {s : Shared} {env : Env} {h₀ : Heap} {x : Str} {body : List Stmt} {Q : Flow → Shared → Prop}
def TurnEndI (h₀ : Heap) (L : Addr) (own : List (Addr × Obj)) (I : Addr) (J : (Str → Option Value) → List (Addr × Obj) → Prop) (s₁ : Shared) (Q : Flow → Shared → Prop) (f : Flow) (s₂ : Shared) : Prop :=
  match f with
  | .ret v => Q (.ret v) s₂
  | .brk => Q .next s₂
  | _ => ∃ h' tk m' all nx, s₂ = { s₁ with heap := h', toks := tk } ∧ Fr h₀ L h' m' ∧ News h₀ L h' all ∧ (∀ p ∈ own, p ∈ all) ∧ (∀ p ∈ nx, p ∈ all) ∧ (∀ p ∈ nx, p.1 ≠ I) ∧ J m' nx
theorem loop_rangeI {r : Addr} {a₀ b₀ : Int} {t₀ u₀ v₀ : Tok} {n : Nat} {m₀ : Str → Option Value} {all news : List (Addr × Obj)} (J : Nat → (Str → Option Value) → List (Addr × Obj) → Prop)
    (hh : A.handled = none) (hr : IsRange s.heap r a₀ b₀ 1 t₀ u₀ v₀) (hsmall : Builtin.Range.small a₀ b₀ 1 = true) (hn : Builtin.Range.rangeSize a₀ b₀ 1 = (n : Int)) (F : Fr h₀ env.locals s.heap m₀) (N : News h₀ env.locals s.heap all) (hs : ∀ p ∈ news, p ∈ all) (hj : J 0 m₀ news)
    (turn : ∀ i t m₁ news₁ h tk I oI, i < n → J i m₁ news₁ → oI.cls = .type "range_iterator" → (∀ p ∈ news₁, p.1 ≠ I) →
      Fr h₀ env.locals h (fun z => if z = x then some (.int (a₀ + (i : Int)) t) else m₁ z) → News h₀ env.locals h ((I, oI) :: news₁) →
      wpAny (model prog w) A (execs body env) (TurnEndI h₀ env.locals [(I, oI)] I (J (i + 1)) { s with heap := h, toks := tk } Q) E { s with heap := h, toks := tk })
    (done : ∀ m₁ news₁ h tk, J n m₁ news₁ → Fr h₀ env.locals h m₁ → News h₀ env.locals h news₁ → Q .next { s with heap := h, toks := tk }) :
    wpAny (model prog w) A (pyIter (.ref r)) (fun it s₂ => LoopAtV prog w A h₀ env x body Q E it s₂) E s := by
  refine wpAny_pyIter_range hr hsmall ?_
  have W : Walks prog w A s.heap.objs.size [s.heap.objs.size] [s.heap.objs.size] n (fun i v => i < n ∧ ∃ t, v = .int (a₀ + i * 1) t)
      (fun i h => IsRangeIter h s.heap.objs.size (a₀ + (i : Nat) * 1) ((n : Int) - (i : Nat)) 1) := (Walks.range hh _ a₀ 1 n).bound
  refine ⟨_, _, _, n, _, _, m₀, news, J, rfl, W, ?_, ?_, ?_, (by show IsRangeIter _ _ _ _ _; rw [hn]; simpa using Heap.get?_push_size _ rfl), F.push _, (fun p hp => ⟨Heap.get?_push_of_some _ (N p (hs p hp)).1, (N p (hs p hp)).2⟩), hj, ?_, ?_⟩
  · intro hm
    exact absurd F.ns.lt ((List.mem_singleton.mp hm) ▸ Nat.lt_irrefl _)
  · intro b hb
    rw [List.mem_singleton.mp hb]
    exact next_is_new F
  · intro p hp hI
    exact absurd (Heap.lt_size (N p (hs p hp)).1) ((List.mem_singleton.mp hI) ▸ Nat.lt_irrefl _)
  · rintro i v m₁ news₁ s₁ own ⟨hh', tk', rfl⟩ hin hP hJ hoff hown hown2 hall hst F₁ N₁
    obtain ⟨_, t, rfl⟩ := hP
    obtain ⟨oI, hst', hcl⟩ : ∃ oI : Obj, hh'.get? s.heap.objs.size = some oI ∧ oI.cls = .type "range_iterator" := ⟨_, hst, rfl⟩
    have hIown := hall _ (.head _) (next_is_new F) _ hst'
    have e1 : a₀ + (i : Int) * 1 = a₀ + (i : Int) := by omega
    rw [e1] at F₁
    have hone : ∀ p ∈ own, p = (s.heap.objs.size, oI) := fun p hp => by
      have h1 := List.mem_singleton.mp (hown p hp)
      have h2 := hown2 p hp
      rw [h1] at h2
      have h2' : hh'.get? s.heap.objs.size = some p.2 := h2
      rw [hst'] at h2'
      obtain ⟨p1, p2⟩ := p
      cases h1; cases h2'; rfl
    refine wpAny_mono (turn i t m₁ news₁ hh' tk' s.heap.objs.size oI hin hJ hcl (fun p hp q => hoff p hp (by rw [q]; exact .head _)) F₁ (fun p hp => ?_)) (fun f s₂ p => ?_) fun _ _ e => e
    · rcases List.mem_cons.mp hp with rfl | hp
      · exact N₁ _ (List.mem_append.mpr (.inl hIown))
      · exact N₁ p (List.mem_append.mpr (.inr hp))
    · have fin : (∃ h' tk m' all nx, s₂ = { s with heap := h', toks := tk } ∧ Fr h₀ env.locals h' m' ∧ News h₀ env.locals h' all ∧ (∀ p ∈ [(s.heap.objs.size, oI)], p ∈ all) ∧ (∀ p ∈ nx, p ∈ all) ∧ (∀ p ∈ nx, p.1 ≠ s.heap.objs.size) ∧ J (i + 1) m' nx) →
          LoopStepU h₀ env.locals [s.heap.objs.size] own (J (i + 1)) { s with heap := hh', toks := tk' } .next s₂ := by
        rintro ⟨h', tk, m', all', nx, e, F', N', ho, hn, hc, hm⟩
        refine ⟨rfl, h', tk, m', nx, e, F', fun p hp => N' p ((List.mem_append.mp hp).elim (fun h => by rw [hone p h]; exact ho _ (.head _)) (hn p)), fun p hp hq => hc p hp (List.mem_singleton.mp hq), hm⟩
      cases f with
      | ret v => exact .ret p
      | brk => exact .brk p
      | next => exact .next (fin p)
      | cont => exact .cont (fin p)
  · rintro h' tk m' news' F' N' _ hJ
    exact done m' news' h' tk hJ F' N'
end
end Mine
end
section
open PySem PySem.W PySem.Calls PyProof.Rows
namespace Mine
/-! ## well-formed trees: plain law -/
def kNs : Str := Str.ofString "namespace"
def kAtt : Str := Str.ofString "attribute"
def kElt : Str := Str.ofString "element"
def kRoot : Str := Str.ofString "root"
def kText : Str := Str.ofString "text"
inductive Ch (r : Nat → RowD) : Nat → List Nat → Prop
  | top {x : Nat} : (r x).parent = none → Ch r x [x]
  | step {x j : Nat} {l : List Nat} : (r x).parent = some j → Ch r j l → Ch r x (x :: l)
structure WfR (n : Nat) (r : Nat → RowD) : Prop where
  par : ∀ x, x < n → ∀ j, (r x).parent = some j → j < n ∧ x ∈ sibs (r x) (r j)
  kid : ∀ j, j < n → ∀ x ∈ (r j).kids, x < n ∧ (r x).parent = some j ∧ (r x).kind ≠ kNs ∧ (r x).kind ≠ kAtt
  att : ∀ j, j < n → ∀ x ∈ (r j).atts, x < n ∧ (r x).parent = some j ∧ (r x).kind = kAtt
  ns : ∀ j, j < n → ∀ x ∈ (r j).nss, x < n ∧ (r x).parent = some j ∧ (r x).kind = kNs
  nd : ∀ j, j < n → (r j).kids.Nodup ∧ (r j).atts.Nodup ∧ (r j).nss.Nodup
  leafK : ∀ j, j < n → isPar (r j).kind = false → (r j).kids = []
  leafA : ∀ j, j < n → (r j).kind ≠ kElt → (r j).atts = [] ∧ (r j).nss = []
  root : ∀ x, x < n → ((r x).parent = none ↔ (r x).kind = kRoot)
  vals : ∀ x, x < n → (r x).value.length ≤ 100
  up : ∀ x, x < n → ∃ l, Ch r x l
theorem Ch.rebase {r r' : Nat → RowD} {P : Nat → Prop} {i : Nat} (hc : ∀ x, P x → x ≠ i → (r' x).parent = (r x).parent) (hP : ∀ x j, P x → (r x).parent = some j → P j) (hi : P i → ∃ l, Ch r' i l) {x : Nat} {l : List Nat} (h : Ch r x l) (hx : P x) : ∃ l', Ch r' x l' := by
  induction h with
  | top h =>
    rename_i x
    by_cases e : x = i
    · exact e ▸ hi (e ▸ hx)
    · exact ⟨_, .top ((hc x hx e).trans h)⟩
  | step h h2 ih =>
    rename_i x j l
    by_cases e : x = i
    · exact e ▸ hi (e ▸ hx)
    · obtain ⟨l', hl'⟩ := ih (hP x j hx h)
      exact ⟨_, .step ((hc x hx e).trans h) hl'⟩
theorem kinds_ne : kNs ≠ kAtt ∧ kNs ≠ kElt ∧ kNs ≠ kRoot ∧ kNs ≠ kText ∧ kAtt ≠ kElt ∧ kAtt ≠ kRoot ∧ kElt ≠ kRoot ∧ kText ≠ kElt ∧ kText ≠ kRoot ∧ kText ≠ kAtt := by decide
theorem isPar_iff {k : Str} : isPar k = true ↔ k = kRoot ∨ k = kElt := by
  unfold isPar kRoot kElt
  rw [List.any_cons, List.any_cons, List.any_nil, Bool.or_false, Bool.or_eq_true, beq_iff_eq, beq_iff_eq]
  exact ⟨fun h => h.elim (fun h => .inl h.symm) (fun h => .inr h.symm), fun h => h.elim (fun h => .inl h.symm) (fun h => .inr h.symm)⟩
def addTo (k : Str) (R : RowD) (n : Nat) : RowD := { R with kids := if k = kNs ∨ k = kAtt then R.kids else R.kids ++ [n], atts := if k = kAtt then R.atts ++ [n] else R.atts, nss := if k = kNs then R.nss ++ [n] else R.nss }
def addR (r : Nat → RowD) (n i : Nat) (R : RowD) : Nat → RowD := fun x => if x = n then R else if x = i then addTo R.kind (r i) n else r x
theorem sibs_eq (R Rp : RowD) : sibs R Rp = if R.kind = kNs then Rp.nss else if R.kind = kAtt then Rp.atts else Rp.kids := rfl
theorem WfR.add {n i : Nat} {r : Nat → RowD} {R : RowD} (W : WfR n r) (hi : i < n) (hp : R.parent = some i) (hk : R.kids = []) (ha : R.atts = []) (hn : R.nss = []) (hv : R.value.length ≤ 100) (hr : R.kind ≠ kRoot)
    (hc : if R.kind = kNs ∨ R.kind = kAtt then (r i).kind = kElt else isPar (r i).kind = true) : WfR (n + 1) (addR r n i R) := by
  have hin : i ≠ n := by omega
  have rn : addR r n i R n = R := by simp [addR]
  have ri : addR r n i R i = addTo R.kind (r i) n := by simp [addR, hin]
  have ro : ∀ x, x ≠ n → x ≠ i → addR r n i R x = r x := fun x h1 h2 => by simp [addR, h1, h2]
  have core : ∀ x, x < n → (addR r n i R x).kind = (r x).kind ∧ (addR r n i R x).parent = (r x).parent ∧ (addR r n i R x).value = (r x).value := fun x hx => by
    by_cases e : x = i
    · subst e; rw [ri]; exact ⟨rfl, rfl, rfl⟩
    · rw [ro x (by omega) e]; exact ⟨rfl, rfl, rfl⟩
  have kids : ∀ j, j < n → ∀ x ∈ (addR r n i R j).kids, x ∈ (r j).kids ∨ (x = n ∧ j = i ∧ ¬ (R.kind = kNs ∨ R.kind = kAtt)) := fun j hj x hx => by
    by_cases e : j = i
    · subst e; rw [ri] at hx
      simp only [addTo] at hx
      split at hx
      · exact .inl hx
      · rcases List.mem_append.mp hx with h | h
        · exact .inl h
        · exact .inr ⟨List.mem_singleton.mp h, rfl, by assumption⟩
    · rw [ro j (by omega) e] at hx; exact .inl hx
  have atts : ∀ j, j < n → ∀ x ∈ (addR r n i R j).atts, x ∈ (r j).atts ∨ (x = n ∧ j = i ∧ R.kind = kAtt) := fun j hj x hx => by
    by_cases e : j = i
    · subst e; rw [ri] at hx
      simp only [addTo] at hx
      split at hx
      · rcases List.mem_append.mp hx with h | h
        · exact .inl h
        · exact .inr ⟨List.mem_singleton.mp h, rfl, by assumption⟩
      · exact .inl hx
    · rw [ro j (by omega) e] at hx; exact .inl hx
  have nss : ∀ j, j < n → ∀ x ∈ (addR r n i R j).nss, x ∈ (r j).nss ∨ (x = n ∧ j = i ∧ R.kind = kNs) := fun j hj x hx => by
    by_cases e : j = i
    · subst e; rw [ri] at hx
      simp only [addTo] at hx
      split at hx
      · rcases List.mem_append.mp hx with h | h
        · exact .inl h
        · exact .inr ⟨List.mem_singleton.mp h, rfl, by assumption⟩
      · exact .inl hx
    · rw [ro j (by omega) e] at hx; exact .inl hx
  have sub : ∀ j, j < n → (∀ x ∈ (r j).kids, x ∈ (addR r n i R j).kids) ∧ (∀ x ∈ (r j).atts, x ∈ (addR r n i R j).atts) ∧ (∀ x ∈ (r j).nss, x ∈ (addR r n i R j).nss) := fun j hj => by
    by_cases e : j = i
    · subst e; rw [ri]
      simp only [addTo]
      refine ⟨fun x hx => ?_, fun x hx => ?_, fun x hx => ?_⟩ <;> split <;> simp [hx]
    · rw [ro j (by omega) e]; exact ⟨fun _ h => h, fun _ h => h, fun _ h => h⟩
  refine ⟨fun x hx j hj => ?_, fun j hj x hx => ?_, fun j hj x hx => ?_, fun j hj x hx => ?_, fun j hj => ?_, fun j hj hl => ?_, fun j hj hl => ?_, fun x hx => ?_, fun x hx => ?_, fun x hx => ?_⟩
  · by_cases e : x = n
    · subst e
      rw [rn, hp] at hj; cases hj
      refine ⟨by omega, ?_⟩
      rw [rn, ri, sibs_eq]
      simp only [addTo]
      by_cases h1 : R.kind = kNs
      · simp [h1]
      · by_cases h2 : R.kind = kAtt
        · simp [h2, kinds_ne.1.symm]
        · simp [h1, h2]
    · have hx' : x < n := by omega
      obtain ⟨c1, c2, c3⟩ := core x hx'
      rw [c2] at hj
      obtain ⟨h1, h2⟩ := W.par x hx' j hj
      refine ⟨by omega, ?_⟩
      obtain ⟨s1, s2, s3⟩ := sub j h1
      rw [sibs_eq] at h2 ⊢
      rw [c1]
      split at h2
      · rw [if_pos (by assumption)]; exact s3 x h2
      · rw [if_neg (by assumption)]
        split at h2
        · rw [if_pos (by assumption)]; exact s2 x h2
        · rw [if_neg (by assumption)]; exact s1 x h2
  · by_cases e : j = n
    · subst e; rw [rn, hk] at hx; cases hx
    · have hj' : j < n := by omega
      rcases kids j hj' x hx with h | ⟨rfl, rfl, h⟩
      · obtain ⟨a, b, c, d⟩ := W.kid j hj' x h
        obtain ⟨c1, c2, c3⟩ := core x a
        exact ⟨by omega, c2.trans b, by rw [c1]; exact c, by rw [c1]; exact d⟩
      · rw [rn]
        exact ⟨by omega, hp, fun q => h (.inl q), fun q => h (.inr q)⟩
  · by_cases e : j = n
    · subst e; rw [rn, ha] at hx; cases hx
    · have hj' : j < n := by omega
      rcases atts j hj' x hx with h | ⟨rfl, rfl, h⟩
      · obtain ⟨a, b, c⟩ := W.att j hj' x h
        obtain ⟨c1, c2, c3⟩ := core x a
        exact ⟨by omega, c2.trans b, by rw [c1]; exact c⟩
      · rw [rn]
        exact ⟨by omega, hp, h⟩
  · by_cases e : j = n
    · subst e; rw [rn, hn] at hx; cases hx
    · have hj' : j < n := by omega
      rcases nss j hj' x hx with h | ⟨rfl, rfl, h⟩
      · obtain ⟨a, b, c⟩ := W.ns j hj' x h
        obtain ⟨c1, c2, c3⟩ := core x a
        exact ⟨by omega, c2.trans b, by rw [c1]; exact c⟩
      · rw [rn]
        exact ⟨by omega, hp, h⟩
  · by_cases e : j = n
    · subst e; rw [rn, hk, ha, hn]; simp
    · have hj' : j < n := by omega
      by_cases e2 : j = i
      · subst e2
        obtain ⟨a, b, c⟩ := W.nd j hj'
        rw [ri]
        simp only [addTo]
        have fresh : ∀ (l : List Nat), l.Nodup → (∀ x ∈ l, x < n) → (l ++ [n]).Nodup := fun l h1 h2 => by
          rw [List.nodup_append]
          refine ⟨h1, by simp, fun x hx y hy => ?_⟩
          rw [List.mem_singleton.mp hy]; have := h2 x hx; omega
        refine ⟨?_, ?_, ?_⟩ <;> split
        · exact a
        · exact fresh _ a fun x hx => (W.kid j hj' x hx).1
        · exact fresh _ b fun x hx => (W.att j hj' x hx).1
        · exact b
        · exact fresh _ c fun x hx => (W.ns j hj' x hx).1
        · exact c
      · rw [ro j e e2]; exact W.nd j hj'
  · by_cases e : j = n
    · subst e; rw [rn]; exact hk
    · have hj' : j < n := by omega
      rw [(core j hj').1] at hl
      by_cases e2 : j = i
      · subst e2
        rw [ri]
        simp only [addTo]
        split
        · exact W.leafK j hj' hl
        · rename_i h; rw [if_neg h, hl] at hc; cases hc
      · rw [ro j e e2]; exact W.leafK j hj' hl
  · by_cases e : j = n
    · subst e; rw [rn]; exact ⟨ha, hn⟩
    · have hj' : j < n := by omega
      rw [(core j hj').1] at hl
      by_cases e2 : j = i
      · subst e2
        have hno : ¬ (R.kind = kNs ∨ R.kind = kAtt) := fun h => by rw [if_pos h] at hc; exact hl hc
        rw [ri]
        simp only [addTo]
        rw [if_neg (fun h => hno (.inr h)), if_neg (fun h => hno (.inl h))]
        exact W.leafA j hj' hl
      · rw [ro j e e2]; exact W.leafA j hj' hl
  · by_cases e : x = n
    · subst e; rw [rn, hp]; simp [hr]
    · have hx' : x < n := by omega
      rw [(core x hx').1, (core x hx').2.1]; exact W.root x hx'
  · by_cases e : x = n
    · subst e; rw [rn]; exact hv
    · have hx' : x < n := by omega
      rw [(core x hx').2.2]; exact W.vals x hx'
  · have old : ∀ x, x < n → ∃ l, Ch (addR r n i R) x l := fun x hx => by
      obtain ⟨l, hl⟩ := W.up x hx
      exact hl.rebase (P := fun y => y < n) (i := n) (fun y hy _ => (core y hy).2.1) (fun y j hy hj => (W.par y hy j hj).1) (fun h => absurd h (Nat.lt_irrefl _)) hx
    by_cases e : x = n
    · subst e
      obtain ⟨l, hl⟩ := old i hi
      exact ⟨_, .step (by rw [rn]; exact hp) hl⟩
    · exact old x (by omega)
end Mine
end
section
open PySem PySem.W PySem.Calls PyProof.Rows
namespace Mine
theorem WfR.nil (r : Nat → RowD) : WfR 0 r := ⟨fun x h => absurd h (Nat.not_lt_zero _), fun x h => absurd h (Nat.not_lt_zero _), fun x h => absurd h (Nat.not_lt_zero _), fun x h => absurd h (Nat.not_lt_zero _), fun x h => absurd h (Nat.not_lt_zero _), fun x h => absurd h (Nat.not_lt_zero _), fun x h => absurd h (Nat.not_lt_zero _), fun x h => absurd h (Nat.not_lt_zero _), fun x h => absurd h (Nat.not_lt_zero _), fun x h => absurd h (Nat.not_lt_zero _)⟩
/-- two families of rows that say the same of the shape -/
structure SameSh (n : Nat) (r r' : Nat → RowD) : Prop where
  kind : ∀ x, x < n → (r' x).kind = (r x).kind
  par : ∀ x, x < n → (r' x).parent = (r x).parent
  kids : ∀ x, x < n → (r' x).kids = (r x).kids
  atts : ∀ x, x < n → (r' x).atts = (r x).atts
  nss : ∀ x, x < n → (r' x).nss = (r x).nss
theorem WfR.same {n : Nat} {r r' : Nat → RowD} (W : WfR n r) (S : SameSh n r r') (hv : ∀ x, x < n → (r' x).value.length ≤ 100) : WfR n r' := by
  refine ⟨fun x hx j hj => ?_, fun j hj x hx => ?_, fun j hj x hx => ?_, fun j hj x hx => ?_, fun j hj => ?_, fun j hj hl => ?_, fun j hj hl => ?_, fun x hx => ?_, hv, fun x hx => ?_⟩
  · rw [S.par x hx] at hj
    obtain ⟨a, b⟩ := W.par x hx j hj
    refine ⟨a, ?_⟩
    rw [sibs_eq] at b ⊢
    rw [S.kind x hx, S.kids j a, S.atts j a, S.nss j a]; exact b
  · rw [S.kids j hj] at hx
    obtain ⟨a, b, c⟩ := W.kid j hj x hx
    rw [S.kind x a, S.par x a]; exact ⟨a, b, c⟩
  · rw [S.atts j hj] at hx
    obtain ⟨a, b, c⟩ := W.att j hj x hx
    rw [S.kind x a, S.par x a]; exact ⟨a, b, c⟩
  · rw [S.nss j hj] at hx
    obtain ⟨a, b, c⟩ := W.ns j hj x hx
    rw [S.kind x a, S.par x a]; exact ⟨a, b, c⟩
  · rw [S.kids j hj, S.atts j hj, S.nss j hj]; exact W.nd j hj
  · rw [S.kind j hj] at hl; rw [S.kids j hj]; exact W.leafK j hj hl
  · rw [S.kind j hj] at hl; rw [S.atts j hj, S.nss j hj]; exact W.leafA j hj hl
  · rw [S.kind x hx, S.par x hx]; exact W.root x hx
  · obtain ⟨l, hl⟩ := W.up x hx
    exact hl.rebase (P := fun y => y < n) (i := n) (fun y hy _ => S.par y hy) (fun y j hy hj => (W.par y hy j hj).1) (fun h => absurd h (Nat.lt_irrefl _)) hx
theorem WfR.ext {n : Nat} {r r' : Nat → RowD} (W : WfR n r) (h : ∀ x, x < n → r' x = r x) : WfR n r' :=
  W.same ⟨fun x hx => by rw [h x hx], fun x hx => by rw [h x hx], fun x hx => by rw [h x hx], fun x hx => by rw [h x hx], fun x hx => by rw [h x hx]⟩ fun x hx => by rw [h x hx]; exact W.vals x hx
theorem WfR.addRoot {n : Nat} {r r' : Nat → RowD} {R : RowD} (W : WfR n r) (h : ∀ x, x < n → r' x = r x) (hn : r' n = R) (hp : R.parent = none) (hk : R.kind = kRoot) (h1 : R.kids = []) (h2 : R.atts = []) (h3 : R.nss = []) (hv : R.value.length ≤ 100) : WfR (n + 1) r' := by
  have W' := W.ext h
  refine ⟨fun x hx j hj => ?_, fun j hj x hx => ?_, fun j hj x hx => ?_, fun j hj x hx => ?_, fun j hj => ?_, fun j hj hl => ?_, fun j hj hl => ?_, fun x hx => ?_, fun x hx => ?_, fun x hx => ?_⟩
  · by_cases e : x = n
    · rw [e, hn, hp] at hj; cases hj
    · have := W'.par x (by omega) j hj; exact ⟨by omega, this.2⟩
  · by_cases e : j = n
    · rw [e, hn, h1] at hx; cases hx
    · have := W'.kid j (by omega) x hx; exact ⟨by omega, this.2⟩
  · by_cases e : j = n
    · rw [e, hn, h2] at hx; cases hx
    · have := W'.att j (by omega) x hx; exact ⟨by omega, this.2⟩
  · by_cases e : j = n
    · rw [e, hn, h3] at hx; cases hx
    · have := W'.ns j (by omega) x hx; exact ⟨by omega, this.2⟩
  · by_cases e : j = n
    · rw [e, hn, h1, h2, h3]; simp
    · exact W'.nd j (by omega)
  · by_cases e : j = n
    · rw [e, hn, h1]
    · exact W'.leafK j (by omega) hl
  · by_cases e : j = n
    · rw [e, hn, h2, h3]; exact ⟨rfl, rfl⟩
    · exact W'.leafA j (by omega) hl
  · by_cases e : x = n
    · rw [e, hn, hp, hk]; exact ⟨fun _ => rfl, fun _ => rfl⟩
    · exact W'.root x (by omega)
  · by_cases e : x = n
    · rw [e, hn]; exact hv
    · exact W'.vals x (by omega)
  · by_cases e : x = n
    · exact ⟨_, .top (by rw [e, hn]; exact hp)⟩
    · exact W'.up x (by omega)
/-! a node moves -/
def movR (r : Nat → RowD) (i j q : Nat) : Nat → RowD := fun x => { r x with parent := if x = i then some q else (r x).parent, kids := (if x = q then [i] else []) ++ (if x = j then (r x).kids.erase i else (r x).kids) }
theorem Ch.mem_up {r : Nat → RowD} {x : Nat} {l : List Nat} (h : Ch r x l) : ∀ y ∈ l, ∃ l', Ch r y l' := by
  induction h with
  | top h => intro y hy; rw [List.mem_singleton.mp hy]; exact ⟨_, .top h⟩
  | step h h2 ih =>
    intro y hy
    rcases List.mem_cons.mp hy with rfl | hy
    · exact ⟨_, .step h h2⟩
    · exact ih y hy
theorem Ch.self {r : Nat → RowD} {x : Nat} {l : List Nat} (h : Ch r x l) : x ∈ l := by cases h <;> simp
theorem Ch.off {r r' : Nat → RowD} {i : Nat} (hc : ∀ x, x ≠ i → (r' x).parent = (r x).parent) {x : Nat} {l : List Nat} (h : Ch r x l) (hi : i ∉ l) : Ch r' x l := by
  induction h with
  | top h => exact .top ((hc _ (fun e => hi (by simp [e]))).trans h)
  | step h h2 ih =>
    simp only [List.mem_cons, not_or] at hi
    exact .step ((hc _ (Ne.symm hi.1)).trans h) (ih hi.2)
theorem WfR.move {n i j q : Nat} {r : Nat → RowD} {l : List Nat} (W : WfR n r) (hi : i < n) (hpi : (r i).parent = some j) (hk : (r i).kind = kElt) (hq : q < n) (hpq : isPar (r q).kind = true) (hl : Ch r q l) (hil : i ∉ l) : WfR n (movR r i j q) := by
  obtain ⟨hj, hij⟩ := W.par i hi j hpi
  have hij' : i ∈ (r j).kids := by
    rw [sibs_eq, hk, if_neg kinds_ne.2.1.symm, if_neg kinds_ne.2.2.2.2.1.symm] at hij; exact hij
  have only : ∀ a, a < n → i ∈ (r a).kids → a = j := fun a ha h => by
    have := (W.kid a ha i h).2.1
    rw [hpi] at this; cases this; rfl
  have hnm : ∀ a, a < n → i ∉ (if a = j then (r a).kids.erase i else (r a).kids) := fun a ha h => by
    by_cases e : a = j
    · rw [if_pos e] at h; exact ((W.nd a ha).1.mem_erase_iff.mp h).1 rfl
    · rw [if_neg e] at h; exact e (only a ha h)
  have old : ∀ a, a < n → ∀ x, x ∈ (if a = j then (r a).kids.erase i else (r a).kids) ↔ (x ∈ (r a).kids ∧ x ≠ i) := fun a ha x => by
    by_cases e : a = j
    · rw [if_pos e, (W.nd a ha).1.mem_erase_iff]; exact ⟨fun h => ⟨h.2, h.1⟩, fun h => ⟨h.2, h.1⟩⟩
    · rw [if_neg e]
      exact ⟨fun h => ⟨h, fun q => e (only a ha (q ▸ h))⟩, fun h => h.1⟩
  have mem : ∀ a, a < n → ∀ x, x ∈ (movR r i j q a).kids ↔ ((a = q ∧ x = i) ∨ (x ∈ (r a).kids ∧ x ≠ i)) := fun a ha x => by
    show x ∈ (if a = q then [i] else []) ++ _ ↔ _
    rw [List.mem_append, old a ha x]
    by_cases e : a = q <;> simp [e]
  have hqi : i ≠ q := fun e => hil (e ▸ hl.self)
  refine ⟨fun x hx a ha => ?_, fun a ha x hx => ?_, fun a ha x hx => ?_, fun a ha x hx => ?_, fun a ha => ?_, fun a ha hl => ?_, fun a ha hl => W.leafA a ha hl, fun x hx => ?_, fun x hx => W.vals x hx, fun x hx => ?_⟩
  · by_cases e : x = i
    · subst e
      have h1 : some q = some a := by simpa [movR] using ha
      cases h1
      refine ⟨hq, ?_⟩
      rw [sibs_eq]
      show x ∈ if (r x).kind = kNs then _ else if (r x).kind = kAtt then _ else (movR r x j q q).kids
      rw [hk, if_neg kinds_ne.2.1.symm, if_neg kinds_ne.2.2.2.2.1.symm, mem q hq]
      exact .inl ⟨rfl, rfl⟩
    · have h1 : (r x).parent = some a := by simpa [movR, e] using ha
      obtain ⟨h2, h3⟩ := W.par x hx a h1
      refine ⟨h2, ?_⟩
      rw [sibs_eq] at h3 ⊢
      show x ∈ if (r x).kind = kNs then (r a).nss else if (r x).kind = kAtt then (r a).atts else (movR r i j q a).kids
      split at h3
      · rw [if_pos (by assumption)]; exact h3
      · rw [if_neg (by assumption)]
        split at h3
        · rw [if_pos (by assumption)]; exact h3
        · rw [if_neg (by assumption), mem a h2]; exact .inr ⟨h3, e⟩
  · rcases (mem a ha x).mp hx with ⟨rfl, rfl⟩ | ⟨h1, h2⟩
    · refine ⟨hi, by simp [movR], ?_, ?_⟩
      · show (r x).kind ≠ kNs; rw [hk]; exact kinds_ne.2.1.symm
      · show (r x).kind ≠ kAtt; rw [hk]; exact kinds_ne.2.2.2.2.1.symm
    · obtain ⟨a1, a2, a3⟩ := W.kid a ha x h1
      exact ⟨a1, by simp [movR, h2, a2], a3⟩
  · have hx' : x ∈ (r a).atts := hx
    obtain ⟨a1, a2, a3⟩ := W.att a ha x hx'
    have : x ≠ i := fun e => by rw [e, hk] at a3; exact kinds_ne.2.2.2.2.1 a3.symm
    exact ⟨a1, by simp [movR, this, a2], a3⟩
  · have hx' : x ∈ (r a).nss := hx
    obtain ⟨a1, a2, a3⟩ := W.ns a ha x hx'
    have : x ≠ i := fun e => by rw [e, hk] at a3; exact kinds_ne.2.1 a3.symm
    exact ⟨a1, by simp [movR, this, a2], a3⟩
  · obtain ⟨a1, a2, a3⟩ := W.nd a ha
    refine ⟨?_, a2, a3⟩
    show ((if a = q then [i] else []) ++ (if a = j then (r a).kids.erase i else (r a).kids)).Nodup
    have h1 : (if a = j then (r a).kids.erase i else (r a).kids).Nodup := by split; exact a1.erase _; exact a1
    rw [List.nodup_append]
    refine ⟨by split <;> simp, h1, fun x hx y hy e => ?_⟩
    split at hx
    · rw [List.mem_singleton.mp hx] at e; subst e; exact hnm a ha hy
    · cases hx
  · have hl' : isPar (r a).kind = false := hl
    have hne : a ≠ q := fun e => by rw [e, hpq] at hl'; cases hl'
    have h0 := W.leafK a ha hl'
    show (if a = q then [i] else []) ++ (if a = j then (r a).kids.erase i else (r a).kids) = []
    rw [if_neg hne, h0]; split <;> rfl
  · by_cases e : x = i
    · subst e
      show (if x = x then some q else _) = none ↔ (r x).kind = kRoot
      rw [if_pos rfl, hk]
      exact ⟨fun h => (by cases h), fun h => absurd h kinds_ne.2.2.2.2.2.2.1⟩
    · show (if x = i then some q else _) = none ↔ (r x).kind = kRoot
      rw [if_neg e]; exact W.root x hx
  · have hc : ∀ y, y ≠ i → (movR r i j q y).parent = (r y).parent := fun y hy => by simp [movR, hy]
    have hi2 : ∃ l', Ch (movR r i j q) i l' := ⟨_, .step (by simp [movR]) (hl.off hc hil)⟩
    obtain ⟨lx, hlx⟩ := W.up x hx
    exact hlx.rebase (P := fun _ => True) (i := i) (fun y _ hy => hc y hy) (fun _ _ _ _ => trivial) (fun _ => hi2) trivial
end Mine
end
section
open PySem PySem.W PySem.Calls PyProof.Rows
namespace Mine
/-! ## places: plain law -/
theorem lexI_pre (a l r : List Int) : lexI (a ++ l) (a ++ r) = lexI l r := by
  induction a with
  | nil => rfl
  | cons x a ih => simp only [List.cons_append, lexI, if_true]; exact ih
theorem lexI_irr (a : List Int) : lexI a a = false := by
  induction a with
  | nil => rfl
  | cons x a ih => simp only [lexI, if_true]; exact ih
theorem lexI_asym : ∀ (a b : List Int), lexI a b = true → lexI b a = false
  | [], [], h => by cases h
  | [], _ :: _, h => rfl
  | _ :: _, [], h => by cases h
  | x :: a, y :: b, h => by
    simp only [lexI] at h ⊢
    by_cases e : x = y
    · subst e; simp only [if_true] at h ⊢; exact lexI_asym a b h
    · rw [if_neg e] at h; rw [if_neg (Ne.symm e)]
      have := of_decide_eq_true h
      exact decide_eq_false (by omega)
theorem lexI_nil (p : List Int) (a : Int) (l : List Int) : lexI p (p ++ a :: l) = true := by
  have := lexI_pre p [] (a :: l)
  rw [List.append_nil] at this
  rw [this]; rfl
theorem lexI_lt (p : List Int) {a b : Int} (l r : List Int) (h : a < b) : lexI (p ++ a :: l) (p ++ b :: r) = true := by
  rw [lexI_pre]
  simp only [lexI]
  rw [if_neg (by omega)]
  exact decide_eq_true h
theorem Ch.det {r : Nat → RowD} {x : Nat} {l : List Nat} (h : Ch r x l) : ∀ {l' : List Nat}, Ch r x l' → l = l' := by
  induction h with
  | top h =>
    intro l' h'
    cases h' with
    | top => rfl
    | step h2 => rw [h] at h2; cases h2
  | step h h2 ih =>
    intro l' h'
    cases h' with
    | top h3 => rw [h] at h3; cases h3
    | step h3 h4 => rw [h] at h3; cases h3; rw [ih h4]
theorem Ch.sub {r : Nat → RowD} {x : Nat} {l : List Nat} (h : Ch r x l) : ∀ y ∈ l, ∃ l', Ch r y l' ∧ l'.length ≤ l.length := by
  induction h with
  | top h => intro y hy; rw [List.mem_singleton.mp hy]; exact ⟨_, .top h, Nat.le_refl _⟩
  | step h h2 ih =>
    intro y hy
    rcases List.mem_cons.mp hy with rfl | hy
    · exact ⟨_, .step h h2, Nat.le_refl _⟩
    · obtain ⟨l', a, b⟩ := ih y hy
      exact ⟨l', a, Nat.le_succ_of_le b⟩
theorem Ch.nodup {r : Nat → RowD} {x : Nat} {l : List Nat} (h : Ch r x l) : l.Nodup := by
  induction h with
  | top h => simp
  | step h h2 ih =>
    refine List.nodup_cons.mpr ⟨fun hm => ?_, ih⟩
    obtain ⟨l', a, b⟩ := h2.sub _ hm
    have := a.det (.step h h2)
    subst this
    simp at b
    omega
theorem nodup_le : ∀ (n : Nat) (l : List Nat), l.Nodup → (∀ x ∈ l, x < n) → l.length ≤ n
  | 0, l, _, h => by
    cases l with
    | nil => exact Nat.le_refl _
    | cons x r => exact absurd (h x (.head _)) (Nat.not_lt_zero _)
  | n + 1, l, hn, h => by
    have h1 : (l.erase n).length ≤ n := nodup_le n _ (hn.erase _) fun x hx => by
      have := hn.mem_erase_iff.mp hx
      have := h x this.2
      omega
    by_cases e : n ∈ l
    · rw [List.length_erase_of_mem e] at h1; omega
    · rw [List.erase_of_not_mem e] at h1; omega
def chainF (r : Nat → RowD) : Nat → Nat → List Nat
  | 0, x => [x]
  | f + 1, x => match (r x).parent with | none => [x] | some j => x :: chainF r f j
theorem Ch.chainF {r : Nat → RowD} {x : Nat} {l : List Nat} (h : Ch r x l) : ∀ f, l.length ≤ f + 1 → Mine.chainF r f x = l := by
  induction h with
  | top h =>
    intro f hf
    cases f with
    | zero => rfl
    | succ f => simp [Mine.chainF, h]
  | step h h2 ih =>
    intro f hf
    cases f with
    | zero => cases h2 <;> simp at hf
    | succ f =>
      simp only [Mine.chainF, h]
      rw [ih f (by simp at hf; omega)]
theorem chainF_pos (r : Nat → RowD) (f x : Nat) : ∃ l, Mine.chainF r f x = x :: l := by
  cases f with
  | zero => exact ⟨_, rfl⟩
  | succ f =>
    simp only [Mine.chainF]
    cases (r x).parent with
    | none => exact ⟨_, rfl⟩
    | some j => exact ⟨_, rfl⟩
theorem row_get {T : List RowD} {x : Nat} (h : x < T.length) : T[x]? = some (rowOf T x) := by
  rw [rowOf_eq (List.getElem?_eq_getElem h)]; exact List.getElem?_eq_getElem h
theorem row_lt {T : List RowD} {x : Nat} {R : RowD} (h : T[x]? = some R) : x < T.length := (List.getElem?_eq_some_iff.mp h).1
abbrev Wf (T : List RowD) : Prop := WfR T.length (rowOf T)
theorem Ch.lt {n : Nat} {r : Nat → RowD} (W : WfR n r) {x : Nat} {l : List Nat} (h : Ch r x l) (hx : x < n) : ∀ y ∈ l, y < n := by
  induction h with
  | top h => intro y hy; rw [List.mem_singleton.mp hy]; exact hx
  | step h h2 ih =>
    intro y hy
    rcases List.mem_cons.mp hy with rfl | hy
    · exact hx
    · exact ih (W.par _ hx _ h).1 y hy
theorem Ch.len {n : Nat} {r : Nat → RowD} (W : WfR n r) {x : Nat} {l : List Nat} (h : Ch r x l) (hx : x < n) : l.length ≤ n := nodup_le n l h.nodup (h.lt W hx)
theorem Ch.isUp {T : List RowD} (W : Wf T) {x : Nat} {l : List Nat} (h : Ch (rowOf T) x l) (hx : x < T.length) : Up T x l := by
  induction h with
  | top h => exact .top (row_get hx) h
  | step h h2 ih => exact .step (row_get hx) h (ih (W.par _ hx _ h).1)
theorem linked_snoc {T : List RowD} {l : List Nat} {a b : Nat} (h : Linked T (l ++ [a])) (hp : ∃ Ra Rb, T[a]? = some Ra ∧ T[b]? = some Rb ∧ b ∈ sibs Rb Ra) : Linked T (l ++ [a] ++ [b]) := by
  intro i x y hx hy
  have hi : i + 1 < (l ++ [a] ++ [b]).length := (List.getElem?_eq_some_iff.mp hy).1
  simp at hi
  by_cases e : i + 1 < (l ++ [a]).length
  · rw [List.getElem?_append_left (by omega)] at hx
    rw [List.getElem?_append_left e] at hy
    exact h i x y hx hy
  · have hi2 : i = l.length := by simp at e; omega
    subst hi2
    simp at hx hy
    subst hx; subst hy
    exact hp
theorem Ch.isLinked {T : List RowD} (W : Wf T) {x : Nat} {l : List Nat} (h : Ch (rowOf T) x l) (hx : x < T.length) : Linked T l.reverse := by
  induction h with
  | top h => intro i a b ha hb; simp at hb
  | step h h2 ih =>
    rename_i x j l
    obtain ⟨h3, h4⟩ := W.par _ hx _ h
    have h5 := ih h3
    cases h2 with
    | top h6 =>
      exact linked_snoc (l := []) h5 ⟨_, _, row_get h3, row_get hx, h4⟩
    | step h6 h7 =>
      rw [List.reverse_cons] at h5 ⊢
      rw [List.reverse_cons]
      exact linked_snoc h5 ⟨_, _, row_get h3, row_get hx, h4⟩
def plc (T : List RowD) (x : Nat) : List Int := placeL T (Mine.chainF (rowOf T) 200 x).reverse
theorem plc_of {T : List RowD} {x : Nat} {l : List Nat} (h : Ch (rowOf T) x l) (hl : l.length ≤ 200) : plc T x = placeL T l.reverse := by
  unfold plc; rw [h.chainF 200 (by omega)]
theorem placeL_pos (T : List RowD) {l : List Nat} (h : l ≠ []) : 0 < (placeL T l).length := by
  cases l with
  | nil => exact absurd rfl h
  | cons a r => simp [placeL]
theorem plc_pos (T : List RowD) (x : Nat) : 0 < (plc T x).length := by
  refine placeL_pos T ?_
  obtain ⟨l, e⟩ := chainF_pos (rowOf T) 200 x
  rw [e]; simp
theorem plc_top {T : List RowD} {x : Nat} (h : (rowOf T x).parent = none) : plc T x = [(x : Int)] := by
  rw [plc_of (.top h) (by simp)]
  simp [placeL, pairsPl]
theorem placeL_snoc (T : List RowD) (l : List Nat) (a b : Nat) : placeL T (l ++ [a, b]) = placeL T (l ++ [a]) ++ amongOf T a b := by
  cases l with
  | nil => simp [placeL, pairsPl]
  | cons c l =>
    have := pairsPl_snoc T (c :: l) a b
    simp only [List.cons_append] at this
    simp only [List.cons_append, placeL, this]
theorem plc_step {T : List RowD} (W : Wf T) (hz : T.length ≤ 100) {x p : Nat} (hx : x < T.length) (h : (rowOf T x).parent = some p) : plc T x = plc T p ++ amongOf T p x := by
  have hp := (W.par x hx p h).1
  obtain ⟨l, hl⟩ := W.up p hp
  have h1 := hl.len W hp
  have h2 : Ch (rowOf T) x (x :: l) := .step h hl
  have h3 := h2.len W hx
  rw [plc_of h2 (by omega), plc_of hl (by omega)]
  cases hl with
  | top h6 => exact placeL_snoc T [] p x
  | step h6 h7 =>
    rw [List.reverse_cons, List.reverse_cons, List.append_assoc]
    exact placeL_snoc T _ p x
theorem sortN_eq (R : RowD) : sortN R = if R.kind = kNs then 0 else if R.kind = kAtt then 1 else 2 := rfl
def Bef (T : List RowD) (x y : Nat) : Prop := lexI (plc T x) (plc T y) = true
theorem bef_of {T : List RowD} {x y : Nat} {p l r : List Int} {a b : Int} (hx : plc T x = p ++ a :: l) (hy : plc T y = p ++ b :: r) (h : a < b) : Bef T x y := by
  unfold Bef; rw [hx, hy]; exact lexI_lt p l r h
theorem Bef.ne {T : List RowD} {x y : Nat} (h : Bef T x y) : x ≠ y := fun e => by
  subst e; unfold Bef at h; rw [lexI_irr] at h; cases h
theorem pw_nodup {T : List RowD} {l : List Nat} (h : l.Pairwise (Bef T)) : l.Nodup := h.imp Bef.ne
theorem sib_pw {l : List Nat} (h : l.Nodup) : l.Pairwise fun x y => l.idxOf x < l.idxOf y := by
  rw [List.pairwise_iff_getElem]
  intro i j hi hj hij
  rw [h.idxOf_getElem i hi, h.idxOf_getElem j hj]
  exact hij
theorem among_kid {T : List RowD} (W : Wf T) {p x : Nat} (hp : p < T.length) (h : x ∈ (rowOf T p).kids) : amongOf T p x = [(2 : Int), (((rowOf T p).kids.idxOf x : Nat) : Int)] := by
  obtain ⟨_, _, h1, h2⟩ := W.kid p hp x h
  unfold amongOf; rw [sortN_eq, sibs_eq, if_neg h1, if_neg h2, if_neg h1, if_neg h2]
theorem among_att {T : List RowD} (W : Wf T) {p x : Nat} (hp : p < T.length) (h : x ∈ (rowOf T p).atts) : amongOf T p x = [(1 : Int), (((rowOf T p).atts.idxOf x : Nat) : Int)] := by
  obtain ⟨_, _, h1⟩ := W.att p hp x h
  have h2 : (rowOf T x).kind ≠ kNs := by rw [h1]; exact kinds_ne.1.symm
  unfold amongOf; rw [sortN_eq, sibs_eq, if_neg h2, if_pos h1, if_neg h2, if_pos h1]
theorem among_ns {T : List RowD} (W : Wf T) {p x : Nat} (hp : p < T.length) (h : x ∈ (rowOf T p).nss) : amongOf T p x = [(0 : Int), (((rowOf T p).nss.idxOf x : Nat) : Int)] := by
  obtain ⟨_, _, h1⟩ := W.ns p hp x h
  unfold amongOf; rw [sortN_eq, sibs_eq, if_pos h1, if_pos h1]
section
variable {T : List RowD} (W : Wf T) (hz : T.length ≤ 100) {p : Nat} (hp : p < T.length)
include W hz hp
theorem plc_kid {x : Nat} (h : x ∈ (rowOf T p).kids) : plc T x = plc T p ++ [(2 : Int), (((rowOf T p).kids.idxOf x : Nat) : Int)] := by
  obtain ⟨a, b, _⟩ := W.kid p hp x h
  rw [plc_step W hz a b, among_kid W hp h]
theorem plc_att {x : Nat} (h : x ∈ (rowOf T p).atts) : plc T x = plc T p ++ [(1 : Int), (((rowOf T p).atts.idxOf x : Nat) : Int)] := by
  obtain ⟨a, b, _⟩ := W.att p hp x h
  rw [plc_step W hz a b, among_att W hp h]
theorem plc_ns {x : Nat} (h : x ∈ (rowOf T p).nss) : plc T x = plc T p ++ [(0 : Int), (((rowOf T p).nss.idxOf x : Nat) : Int)] := by
  obtain ⟨a, b, _⟩ := W.ns p hp x h
  rw [plc_step W hz a b, among_ns W hp h]
/-- what stands in the walk of a forest of p's children -/
theorem sib_bef {S : List Nat} {n : Int} (hS : S.Nodup) (hpl : ∀ x ∈ S, plc T x = plc T p ++ [n, ((S.idxOf x : Nat) : Int)]) : S.Pairwise (Bef T) := by
  refine List.Pairwise.imp_of_mem ?_ (sib_pw hS)
  intro x y hx hy h
  have h1 := hpl x hx
  have h2 := hpl y hy
  have e1 : ∀ k : Int, plc T p ++ [n, k] = (plc T p ++ [n]) ++ k :: [] := fun k => by simp
  rw [e1] at h1 h2
  exact bef_of h1 h2 (by omega)
theorem node_pw {k : Fo} (hk : (k.walk T).Pairwise (Bef T) ∧ ∀ y ∈ k.walk T, ∃ c ∈ (rowOf T p).kids, ∃ t, plc T y = plc T c ++ t) :
    (walk1Of T p k).Pairwise (Bef T) ∧ ∀ y ∈ walk1Of T p k, ∃ t, plc T y = plc T p ++ t := by
  obtain ⟨hk1, hk2⟩ := hk
  have hk3 : ∀ y ∈ k.walk T, ∃ t, plc T y = plc T p ++ 2 :: t := fun y hy => by
    obtain ⟨c, hc, t, e⟩ := hk2 y hy
    rw [plc_kid W hz hp hc] at e
    exact ⟨_, by rw [e, List.append_assoc]; rfl⟩
  have hn3 : ∀ y ∈ (rowOf T p).nss, ∃ t, plc T y = plc T p ++ 0 :: t := fun y hy => ⟨_, plc_ns W hz hp hy⟩
  have ha3 : ∀ y ∈ (rowOf T p).atts, ∃ t, plc T y = plc T p ++ 1 :: t := fun y hy => ⟨_, plc_att W hz hp hy⟩
  obtain ⟨d1, d2, d3⟩ := W.nd p hp
  have e : walk1Of T p k = p :: ((rowOf T p).nss ++ ((rowOf T p).atts ++ k.walk T)) := by
    unfold walk1Of; rw [nssOf_eq (row_get hp), attsOf_eq (row_get hp)]; simp
  rw [e]
  refine ⟨?_, fun y hy => ?_⟩
  · rw [List.pairwise_cons, List.pairwise_append, List.pairwise_append]
    refine ⟨fun y hy => ?_, sib_bef W hz hp d3 fun x hx => plc_ns W hz hp hx, ⟨sib_bef W hz hp d2 fun x hx => plc_att W hz hp hx, hk1, fun x hx y hy => ?_⟩, fun x hx y hy => ?_⟩
    · have : ∃ a t, plc T y = plc T p ++ a :: t := by
        rcases List.mem_append.mp hy with h | h
        · exact ⟨_, hn3 y h⟩
        · rcases List.mem_append.mp h with h | h
          · exact ⟨_, ha3 y h⟩
          · exact ⟨_, hk3 y h⟩
      obtain ⟨a, t, h⟩ := this
      unfold Bef; rw [h]; exact lexI_nil _ _ _
    · obtain ⟨t, h1⟩ := ha3 x hx
      obtain ⟨u, h2⟩ := hk3 y hy
      exact bef_of h1 h2 (by omega)
    · obtain ⟨t, h1⟩ := hn3 x hx
      rcases List.mem_append.mp hy with h | h
      · obtain ⟨u, h2⟩ := ha3 y h
        exact bef_of h1 h2 (by omega)
      · obtain ⟨u, h2⟩ := hk3 y h
        exact bef_of h1 h2 (by omega)
  · rcases List.mem_cons.mp hy with rfl | hy
    · exact ⟨[], by simp⟩
    · rcases List.mem_append.mp hy with h | h
      · obtain ⟨t, e⟩ := hn3 y h; exact ⟨_, e⟩
      · rcases List.mem_append.mp h with h | h
        · obtain ⟨t, e⟩ := ha3 y h; exact ⟨_, e⟩
        · obtain ⟨t, e⟩ := hk3 y h; exact ⟨_, e⟩
end
theorem forest_pw {T : List RowD} (W : Wf T) (hz : T.length ≤ 100) : ∀ (f : Fo) (p : Nat) (pre l : List Nat), p < T.length → IsF T f l → (rowOf T p).kids = pre ++ l → (f.walk T).Pairwise (Bef T) ∧ ∀ y ∈ f.walk T, ∃ c ∈ l, ∃ t, plc T y = plc T c ++ t
  | .nil, p, pre, l, hp, hf, hl => by simp [Fo.walk]
  | .cons c k r, p, pre, l, hp, hf, hl => by
    obtain ⟨R, l', rfl, hR, hk, hr⟩ := hf
    have hc := row_lt hR
    rw [← rowOf_eq hR] at hk
    have h1 := forest_pw W hz k c [] (rowOf T c).kids hc hk rfl
    have h2 := forest_pw W hz r p (pre ++ [c]) l' hp hr (by rw [hl]; simp)
    obtain ⟨h3, h4⟩ := node_pw W hz hc h1
    have e : (Fo.cons c k r).walk T = walk1Of T c k ++ r.walk T := rfl
    rw [e]
    have hnd := (W.nd p hp).1
    refine ⟨?_, fun y hy => ?_⟩
    · rw [List.pairwise_append]
      refine ⟨h3, h2.1, fun x hx y hy => ?_⟩
      obtain ⟨t, ex⟩ := h4 x hx
      obtain ⟨d, hd, u, ey⟩ := h2.2 y hy
      have hcm : c ∈ (rowOf T p).kids := by rw [hl]; simp
      have hdm : d ∈ (rowOf T p).kids := by rw [hl]; simp [hd]
      rw [plc_kid W hz hp hcm] at ex
      rw [plc_kid W hz hp hdm] at ey
      have hlt : (rowOf T p).kids.idxOf c < (rowOf T p).kids.idxOf d := by
        have h5 := sib_pw hnd
        have h6 : ∀ S : List Nat, S = (rowOf T p).kids → (pre ++ c :: l').Pairwise (fun x y => S.idxOf x < S.idxOf y) → S.idxOf c < S.idxOf d := fun S _ h => by
          rw [List.pairwise_append, List.pairwise_cons] at h
          exact h.2.1.1 d hd
        refine h6 _ rfl ?_
        rw [← hl]; exact h5
      have e1 : ∀ (k : Int) (t : List Int), plc T p ++ [2, k] ++ t = (plc T p ++ [2]) ++ k :: t := fun k t => by simp
      rw [e1] at ex ey
      exact bef_of ex ey (by omega)
    · rcases List.mem_append.mp hy with h | h
      · obtain ⟨t, e⟩ := h4 y h
        exact ⟨c, .head _, t, e⟩
      · obtain ⟨d, hd, t, e⟩ := h2.2 y h
        exact ⟨d, .tail _ hd, t, e⟩
theorem walk1_pw {T : List RowD} (W : Wf T) (hz : T.length ≤ 100) {p : Nat} (hp : p < T.length) {k : Fo} (hk : IsF T k (rowOf T p).kids) : (walk1Of T p k).Pairwise (Bef T) ∧ ∀ y ∈ walk1Of T p k, ∃ t, plc T y = plc T p ++ t :=
  node_pw W hz hp (forest_pw W hz k p [] _ hp hk rfl)
end Mine
end
section
open PySem PySem.W PySem.Calls PyProof.Rows
namespace Mine
/-! ## the walk: plain law -/
theorem forest_list {T : List RowD} {m : Nat} : ∀ (l : List Nat), (∀ c ∈ l, c < T.length ∧ ∃ k, IsF T k (rowOf T c).kids ∧ 1 + k.depth ≤ m) → ∃ f, IsF T f l ∧ f.depth ≤ m
  | [], _ => ⟨.nil, rfl, Nat.zero_le _⟩
  | c :: l, h => by
    obtain ⟨hc, k, hk, hd⟩ := h c (.head _)
    obtain ⟨f, hf, hfd⟩ := forest_list l fun x hx => h x (.tail _ hx)
    exact ⟨.cons c k f, ⟨rowOf T c, l, rfl, row_get hc, hk, hf⟩, by simp only [Fo.depth]; omega⟩
theorem forest_ex {T : List RowD} (W : Wf T) : ∀ (m x : Nat) (l : List Nat), Ch (rowOf T) x l → x < T.length → T.length - l.length ≤ m → ∃ k, IsF T k (rowOf T x).kids ∧ k.depth ≤ m := by
  intro m
  induction m with
  | zero =>
    intro x l hl hx hm
    refine forest_list _ fun c hc => ?_
    obtain ⟨h1, h2, _⟩ := W.kid x hx c hc
    have h3 := (Ch.step h2 hl).len W h1
    simp at h3; omega
  | succ m ih =>
    intro x l hl hx hm
    refine forest_list _ fun c hc => ?_
    obtain ⟨h1, h2, _⟩ := W.kid x hx c hc
    have h3 := Ch.step h2 hl
    have h4 := h3.len W h1
    obtain ⟨k, hk, hd⟩ := ih c _ h3 h1 (by simp at h4 ⊢; omega)
    exact ⟨h1, k, hk, by omega⟩
theorem forest_of {T : List RowD} (W : Wf T) {x : Nat} (hx : x < T.length) : ∃ k, IsF T k (rowOf T x).kids ∧ k.depth ≤ T.length := by
  obtain ⟨l, hl⟩ := W.up x hx
  exact forest_ex W _ x l hl hx (Nat.sub_le _ _)
theorem walk_lt {T : List RowD} (W : Wf T) : ∀ (f : Fo) (l : List Nat), IsF T f l → ∀ y ∈ f.walk T, y < T.length
  | .nil, l, _, y, hy => by simp [Fo.walk] at hy
  | .cons c k r, l, hf, y, hy => by
    obtain ⟨R, l', rfl, hR, hk, hr⟩ := hf
    have hc := row_lt hR
    have hR2 := rowOf_eq hR
    simp only [Fo.walk, nssOf_eq hR, attsOf_eq hR, List.mem_append, List.mem_cons] at hy
    subst hR2
    rcases hy with (((rfl | h) | h) | h) | h
    · exact hc
    · exact (W.ns c hc y h).1
    · exact (W.att c hc y h).1
    · exact walk_lt W k _ hk y h
    · exact walk_lt W r _ hr y h
theorem walk1_lt {T : List RowD} (W : Wf T) {p : Nat} (hp : p < T.length) {k : Fo} (hk : IsF T k (rowOf T p).kids) : ∀ y ∈ walk1Of T p k, y < T.length := fun y hy => by
  simp only [walk1Of, nssOf_eq (row_get hp), attsOf_eq (row_get hp), List.mem_append, List.mem_cons] at hy
  rcases hy with ((rfl | h) | h) | h
  · exact hp
  · exact (W.ns p hp y h).1
  · exact (W.att p hp y h).1
  · exact walk_lt W k _ hk y h
theorem walk1_len {T : List RowD} (W : Wf T) (hz : T.length ≤ 100) {p : Nat} (hp : p < T.length) {k : Fo} (hk : IsF T k (rowOf T p).kids) : (walk1Of T p k).length ≤ T.length :=
  nodup_le _ _ (pw_nodup (walk1_pw W hz hp hk).1) (walk1_lt W hp hk)
theorem size_le_walk (T : List RowD) (k : Fo) : k.size ≤ (k.walk T).length := by
  induction k with
  | nil => exact Nat.zero_le _
  | cons i k r h1 h2 => simp only [Fo.size, Fo.walk, List.length_append, List.length_cons]; omega
theorem size_le {T : List RowD} (W : Wf T) (hz : T.length ≤ 100) {p : Nat} (hp : p < T.length) {k : Fo} (hk : IsF T k (rowOf T p).kids) : k.size ≤ T.length := by
  have h1 := size_le_walk T k
  have h2 := walk1_len W hz hp hk
  simp only [walk1Of, List.length_append, List.length_cons] at h2
  omega
/-- two documents: the walk of both rises -/
theorem whole_pw {T : List RowD} (W : Wf T) (hz : T.length ≤ 100) {r0 r1 : Nat} (h0 : r0 < r1) (h1 : r1 < T.length) (p0 : (rowOf T r0).parent = none) (p1 : (rowOf T r1).parent = none) {k0 k1 : Fo} (hk0 : IsF T k0 (rowOf T r0).kids) (hk1 : IsF T k1 (rowOf T r1).kids) :
    (walk1Of T r0 k0 ++ walk1Of T r1 k1).Pairwise (Bef T) := by
  obtain ⟨a1, a2⟩ := walk1_pw W hz (by omega) hk0
  obtain ⟨b1, b2⟩ := walk1_pw W hz h1 hk1
  rw [List.pairwise_append]
  refine ⟨a1, b1, fun x hx y hy => ?_⟩
  obtain ⟨t, ex⟩ := a2 x hx
  obtain ⟨u, ey⟩ := b2 y hy
  rw [plc_top p0] at ex
  rw [plc_top p1] at ey
  exact bef_of (p := []) ex ey (by omega)
/-- the top of a node of the walk is the root -/
theorem top_of {T : List RowD} (W : Wf T) (hz : T.length ≤ 100) {r x : Nat} (hr : r < T.length) (pr : (rowOf T r).parent = none) {k : Fo} (hk : IsF T k (rowOf T r).kids) (hx : x ∈ walk1Of T r k) {l : List Nat} (hl : Ch (rowOf T) x l) : l.getLastD 0 = r := by
  obtain ⟨t, e⟩ := (walk1_pw W hz hr hk).2 x hx
  have hxl := walk1_lt W hr hk x hx
  have hll := hl.len W hxl
  rw [plc_top pr, plc_of hl (by omega)] at e
  have hne : l ≠ [] := by cases hl <;> simp
  obtain ⟨init, last, rfl⟩ : ∃ i z, l = i ++ [z] := ⟨l.dropLast, l.getLast hne, (List.dropLast_concat_getLast hne).symm⟩
  simp [placeL] at e
  simp
  omega
theorem pw_idx {α : Type} [BEq α] [LawfulBEq α] {P : α → α → Prop} {l : List α} (h : l.Pairwise P) {x y : α} (hx : x ∈ l) (hy : y ∈ l) (hlt : l.idxOf x < l.idxOf y) : P x y := by
  have h1 := List.pairwise_iff_getElem.mp h _ _ (List.idxOf_lt_length_of_mem hx) (List.idxOf_lt_length_of_mem hy) hlt
  rwa [List.getElem_idxOf, List.getElem_idxOf] at h1
theorem idx_inj {l : List Nat} {x y : Nat} (hx : x ∈ l) (e : l.idxOf x = l.idxOf y) : x = y := by
  have hy : l.idxOf y < l.length := by rw [← e]; exact List.idxOf_lt_length_of_mem hx
  have h1 : l[l.idxOf x]'(List.idxOf_lt_length_of_mem hx) = x := List.getElem_idxOf _
  have h2 : l[l.idxOf y] = y := List.getElem_idxOf hy
  rw [← h1, ← h2]; simp only [e]
theorem bef_idx {T : List RowD} {l : List Nat} (h : l.Pairwise (Bef T)) {x y : Nat} (hx : x ∈ l) (hy : y ∈ l) : lexI (plc T x) (plc T y) = decide (l.idxOf x < l.idxOf y) := by
  by_cases h1 : l.idxOf x < l.idxOf y
  · rw [decide_eq_true h1]; exact pw_idx h hx hy h1
  · rw [decide_eq_false h1]
    by_cases h2 : l.idxOf y < l.idxOf x
    · exact lexI_asym _ _ (pw_idx h hy hx h2)
    · have : x = y := idx_inj hx (by omega)
      subst this; exact lexI_irr _
theorem pw_uniq {f : Nat → Nat} : ∀ (a b : List Nat), a.Pairwise (fun x y => f x < f y) → b.Pairwise (fun x y => f x < f y) → (∀ x, x ∈ a ↔ x ∈ b) → a = b
  | [], [], _, _, _ => rfl
  | [], y :: b, _, _, h => absurd ((h y).mpr (.head _)) (by simp)
  | x :: a, [], _, _, h => absurd ((h x).mp (.head _)) (by simp)
  | x :: a, y :: b, ha, hb, h => by
    rw [List.pairwise_cons] at ha hb
    have e : x = y := by
      rcases List.mem_cons.mp ((h x).mp (.head _)) with e | e
      · exact e
      · rcases List.mem_cons.mp ((h y).mpr (.head _)) with e2 | e2
        · exact e2.symm
        · have := hb.1 x e; have := ha.1 y e2; omega
    subst e
    rw [pw_uniq a b ha.2 hb.2 fun z => ?_]
    have hz := h z
    simp only [List.mem_cons] at hz
    constructor
    · intro hm
      rcases hz.mp (.inr hm) with rfl | h2
      · exact absurd (ha.1 z hm) (Nat.lt_irrefl _)
      · exact h2
    · intro hm
      rcases hz.mpr (.inr hm) with rfl | h2
      · exact absurd (hb.1 z hm) (Nat.lt_irrefl _)
      · exact h2
/-- what in_order gives: the nodes of the walk that were asked for -/
theorem order_eq {w nodes out : List Nat} (hw : w.Nodup) (hn : ∀ x ∈ nodes, x ∈ w) (hm : ∀ x, x ∈ out ↔ x ∈ nodes) (ho : out.Pairwise fun x y => w.idxOf x < w.idxOf y) : out = w.filter fun x => decide (x ∈ nodes) := by
  refine pw_uniq (f := w.idxOf) _ _ ho ((sib_pw hw).filter _) fun x => ?_
  rw [hm, List.mem_filter, decide_eq_true_iff]
  exact ⟨fun h => ⟨hn x h, h⟩, fun h => h.2⟩
theorem filter_all {w nodes : List Nat} (h : ∀ x ∈ w, x ∈ nodes) : (w.filter fun x => decide (x ∈ nodes)) = w := by
  rw [List.filter_eq_self]; exact fun x hx => decide_eq_true (h x hx)
/-! what stands beneath -/
def notAN (T : List RowD) (y : Nat) : Bool := !(decide ((rowOf T y).kind = kAtt) || decide ((rowOf T y).kind = kNs))
theorem plain_walk {T : List RowD} (W : Wf T) : ∀ (f : Fo) (p : Nat) (l : List Nat), p < T.length → (∀ c ∈ l, c ∈ (rowOf T p).kids) → IsF T f l → (f.walk T).filter (notAN T) = f.plain
  | .nil, p, l, hp, hl, hf => rfl
  | .cons c k r, p, l, hp, hl, hf => by
    obtain ⟨R, l', rfl, hR, hk, hr⟩ := hf
    have hc := row_lt hR
    have hR2 := rowOf_eq hR
    subst hR2
    have h1 := plain_walk W k c _ hc (fun _ h => h) hk
    have h2 := plain_walk W r p l' hp (fun x hx => hl x (.tail _ hx)) hr
    obtain ⟨_, _, h3, h4⟩ := W.kid p hp c (hl c (.head _))
    have e1 : notAN T c = true := by simp [notAN, h3, h4]
    have e2 : (nssOf T c).filter (notAN T) = [] := by
      rw [nssOf_eq (row_get hc), List.filter_eq_nil_iff]
      intro y hy
      simp [notAN, (W.ns c hc y hy).2.2]
    have e3 : (attsOf T c).filter (notAN T) = [] := by
      rw [attsOf_eq (row_get hc), List.filter_eq_nil_iff]
      intro y hy
      simp [notAN, (W.att c hc y hy).2.2]
    simp only [Fo.walk, Fo.plain, List.filter_append, List.filter_cons, e1, e2, e3, h1, h2, if_true, List.append_nil, List.cons_append, List.nil_append]
theorem plain_tail {T : List RowD} (W : Wf T) {p : Nat} (hp : p < T.length) {k : Fo} (hk : IsF T k (rowOf T p).kids) : ((walk1Of T p k).tail).filter (notAN T) = k.plain := by
  have h1 := plain_walk W k p _ hp (fun _ h => h) hk
  have e2 : (nssOf T p).filter (notAN T) = [] := by
    rw [nssOf_eq (row_get hp), List.filter_eq_nil_iff]
    intro y hy
    simp [notAN, (W.ns p hp y hy).2.2]
  have e3 : (attsOf T p).filter (notAN T) = [] := by
    rw [attsOf_eq (row_get hp), List.filter_eq_nil_iff]
    intro y hy
    simp [notAN, (W.att p hp y hy).2.2]
  show ((nssOf T p ++ attsOf T p ++ k.walk T).filter (notAN T)) = _
  rw [List.filter_append, List.filter_append, e2, e3, h1]; rfl
/-! texts -/
theorem text_eq {T : List RowD} (W : Wf T) : ∀ (f : Fo) (l : List Nat), IsF T f l → catS (txtsL T f.plain) = catS (f.ltxt T)
  | .nil, l, hf => rfl
  | .cons c k r, l, hf => by
    obtain ⟨R, l', rfl, hR, hk, hr⟩ := hf
    have hc := row_lt hR
    have hR2 := rowOf_eq hR
    have h1 := text_eq W k _ hk
    have h2 := text_eq W r _ hr
    rw [ltxt_cons hR]
    have h3 : catS (lawText T R k :: r.ltxt T) = catS [lawText T R k, catS (r.ltxt T)] := by simp [catS]
    rw [h3, ← h2]
    have h4 : txtsL T (Fo.cons c k r).plain = txtsL T [c] ++ (txtsL T k.plain ++ txtsL T r.plain) := by
      simp only [Fo.plain, txtsL]; rw [← List.filterMap_append, ← List.filterMap_append]; rfl
    rw [h4]
    have h5 : txtsL T [c] = if R.kind = Str.ofString "text" then [R.value] else [] := by
      simp only [txtsL, List.filterMap_cons, List.filterMap_nil, txt1, hR]
      split <;> rename_i h
      · split at h
        · cases h
        · rename_i h6; rw [if_neg h6]
      · split at h
        · rename_i h6; cases h; rw [if_pos h6]
        · cases h
    rw [h5]
    unfold lawText
    by_cases e : R.kind = Str.ofString "text"
    · rw [if_pos e, if_pos e]
      have h6 : R.kids = [] := by
        rw [← hR2]
        refine W.leafK c hc ?_
        rw [hR2, e]; decide
      rw [h6] at hk
      have h7 : k = .nil := by
        cases k with
        | nil => rfl
        | cons a b d => obtain ⟨_, _, h8, _⟩ := hk; cases h8
      subst h7
      simp [Fo.plain, txtsL, catS]
    · rw [if_neg e, if_neg e, join_catS, ← h1]
      simp [catS]
theorem str_eq {T : List RowD} (W : Wf T) {R : RowD} {k : Fo} (hk : IsF T k R.kids) (hp : isPar R.kind = true) : strVal T R k = lawText T R k := by
  unfold strVal lawText
  rw [if_pos hp, if_neg (fun e => by rw [e] at hp; exact absurd hp (by decide)), join_catS, join_catS]
  exact text_eq W k _ hk
theorem leaf_nil {T : List RowD} (W : Wf T) {x : Nat} (hx : x < T.length) {k : Fo} (hk : IsF T k (rowOf T x).kids) (hp : isPar (rowOf T x).kind = false) : k = .nil := by
  rw [W.leafK x hx hp] at hk
  cases k with
  | nil => rfl
  | cons a b d => obtain ⟨_, _, h8, _⟩ := hk; cases h8
end Mine
end
section
open PySem PySem.W PySem.Calls PyProof.Rows
namespace Mine
/-! ## what a line declares: both ways the same -/
theorem getS_nil (p : Str) : getS [] p = none := rfl
theorem getS_cons (a u : Str) (D : List (Str × Str)) (p : Str) : getS ((a, u) :: D) p = if a = p then some u else getS D p := by
  unfold getS
  rw [List.find?_cons]
  by_cases e : a = p
  · simp [e]
  · simp [e]
theorem getS_app (D D' : List (Str × Str)) (p : Str) : getS (D ++ D') p = (getS D p).or (getS D' p) := by
  induction D with
  | nil => simp [getS_nil]
  | cons x D ih =>
    obtain ⟨a, u⟩ := x
    rw [List.cons_append, getS_cons, getS_cons, ih]
    by_cases e : a = p
    · simp [e]
    · simp [e]
theorem getS_map (D : List (Str × Str)) (p u q : Str) : getS (D.map fun x => if x.1 = p then (x.1, u) else x) q = if p = q then (getS D q).map (fun _ => u) else getS D q := by
  induction D with
  | nil => simp [getS_nil]
  | cons x D ih =>
    obtain ⟨a, v⟩ := x
    rw [List.map_cons]
    by_cases e : a = p
    · subst e
      simp only [if_true]
      rw [getS_cons, getS_cons, ih]
      by_cases e2 : a = q
      · simp [e2]
      · simp [e2]
    · simp only [if_neg e]
      rw [getS_cons, getS_cons, ih]
      by_cases e2 : a = q
      · subst e2; simp [Ne.symm e]
      · simp [e2]
theorem getS_put (D : List (Str × Str)) (p u q : Str) : getS (putS D p u) q = if p = q then some u else getS D q := by
  unfold putS
  by_cases h : hasS D p = true
  · rw [if_pos h, getS_map]
    by_cases e : p = q
    · subst e
      rw [hasS_get] at h
      obtain ⟨v, hv⟩ := Option.isSome_iff_exists.mp h
      simp [hv]
    · simp [e]
  · rw [if_neg h, getS_app, getS_cons, getS_nil]
    by_cases e : p = q
    · subst e
      rw [hasS_get] at h
      have : getS D p = none := by simpa using h
      simp [this]
    · simp [e]
theorem getS_del (D : List (Str × Str)) (p q : Str) : getS (delS D p) q = if p = q then none else getS D q := by
  unfold delS
  induction D with
  | nil => simp [getS_nil]
  | cons x D ih =>
    obtain ⟨a, v⟩ := x
    rw [List.filter_cons]
    by_cases e : a = p
    · subst e
      simp only [decide_true, Bool.not_true, Bool.false_eq_true, if_false]
      rw [ih, getS_cons]
      by_cases e2 : a = q
      · simp [e2]
      · simp [e2]
    · simp only [e, decide_false, Bool.not_false, if_true]
      rw [getS_cons, getS_cons, ih]
      by_cases e2 : a = q
      · subst e2; simp [Ne.symm e]
      · simp [e2]
def keysS (D : List (Str × Str)) : List Str := D.map (·.1)
theorem mem_keys (D : List (Str × Str)) (p : Str) : p ∈ keysS D ↔ (getS D p).isSome = true := by
  induction D with
  | nil => simp [keysS, getS_nil]
  | cons x D ih =>
    obtain ⟨a, v⟩ := x
    rw [getS_cons]
    show p ∈ a :: keysS D ↔ _
    rw [List.mem_cons, ih]
    by_cases e : a = p
    · simp [e]
    · simp [e, Ne.symm e]
theorem keys_put (D : List (Str × Str)) (p u : Str) : keysS (putS D p u) = if hasS D p then keysS D else keysS D ++ [p] := by
  unfold putS
  split
  · unfold keysS
    rw [List.map_map]
    refine List.map_congr_left fun x _ => ?_
    show (if x.1 = p then (x.1, u) else x).1 = x.1
    split <;> rfl
  · simp [keysS]
theorem nd_put {D : List (Str × Str)} (h : (keysS D).Nodup) (p u : Str) : (keysS (putS D p u)).Nodup := by
  rw [keys_put]
  split
  · exact h
  · rename_i h2
    rw [List.nodup_append]
    refine ⟨h, by simp, fun x hx y hy => ?_⟩
    rw [List.mem_singleton.mp hy]
    intro e; subst e
    rw [hasS_get] at h2
    exact h2 ((mem_keys D x).mp hx)
theorem nd_del {D : List (Str × Str)} (h : (keysS D).Nodup) (p : Str) : (keysS (delS D p)).Nodup := h.sublist (List.Sublist.map _ List.filter_sublist)
theorem nd_notNil {D : List (Str × Str)} (h : (keysS D).Nodup) : (keysS (notNil D)).Nodup := h.sublist (List.Sublist.map _ List.filter_sublist)
theorem nd_ns {T : List RowD} {D : List (Str × Str)} (h : (keysS D).Nodup) (j : Nat) : (keysS (nsStep T D j)).Nodup := by
  unfold nsStep
  split
  · split
    · exact nd_del h _
    · exact h
  · exact nd_put h _ _
def Told (D raw : List (Str × Str)) : Prop := (keysS D).Nodup ∧ (keysS raw).Nodup ∧ ∀ p, getS D p = (getS raw p).filter fun u => !decide (u = Str.ofString "")
theorem Told.ns {T : List RowD} {D raw : List (Str × Str)} (h : Told D raw) (j : Nat) : Told (nsStep T D j) (lawNs T raw j) := by
  obtain ⟨h1, h2, h3⟩ := h
  refine ⟨nd_ns h1 j, nd_put h2 _ _, fun p => ?_⟩
  unfold nsStep lawNs
  rw [getS_put]
  by_cases e : (rowOf T j).value = Str.ofString ""
  · rw [if_pos e]
    by_cases e2 : (rowOf T j).name = p
    · rw [if_pos e2, e]
      have h4 : (Option.some (Str.ofString "")).filter (fun u => !decide (u = Str.ofString "")) = none := by simp [Option.filter]
      rw [h4]
      split
      · rw [getS_del, if_pos e2]
      · rename_i h5
        rw [hasS_get, e2] at h5
        simpa using h5
    · rw [if_neg e2]
      split
      · rw [getS_del, if_neg e2]; exact h3 p
      · exact h3 p
  · rw [if_neg e, getS_put]
    by_cases e2 : (rowOf T j).name = p
    · rw [if_pos e2, if_pos e2]; simp [Option.filter, e]
    · rw [if_neg e2, if_neg e2]; exact h3 p
theorem Told.line {T : List RowD} (l : List Nat) : ∀ {D raw : List (Str × Str)}, Told D raw → Told (l.foldl (nsStep T) D) (l.foldl (lawNs T) raw) := by
  induction l with
  | nil => exact fun h => h
  | cons x l ih => exact fun h => ih (h.ns x)
theorem Told.all {T : List RowD} (l : List Nat) : ∀ {D raw : List (Str × Str)}, Told D raw → Told (l.foldl (lineStep T) D) (l.foldl (lawLine T) raw) := by
  induction l with
  | nil => exact fun h => h
  | cons x l ih => exact fun h => ih (h.line _)
theorem told_xml : Told xmlPair xmlPair := by
  refine ⟨by simp [keysS, xmlPair], by simp [keysS, xmlPair], fun p => ?_⟩
  unfold xmlPair
  rw [getS_cons, getS_nil]
  split
  · have : (Str.ofString "http://www.w3.org/XML/1998/namespace" = Str.ofString "") = False := by
      rw [eq_iff_iff]; exact ⟨fun h => absurd h (by decide), False.elim⟩
    simp [Option.filter, this]
  · rfl
theorem getS_notNil {D : List (Str × Str)} (h : (keysS D).Nodup) (p : Str) : getS (notNil D) p = (getS D p).filter fun u => !decide (u = Str.ofString "") := by
  induction D with
  | nil => rfl
  | cons x D ih =>
    obtain ⟨a, v⟩ := x
    have hn : a ∉ keysS D ∧ (keysS D).Nodup := List.nodup_cons.mp h
    unfold notNil at ih ⊢
    rw [List.filter_cons]
    by_cases e : v = Str.ofString ""
    · subst e
      simp only [decide_true, Bool.not_true, Bool.false_eq_true, if_false]
      rw [ih hn.2, getS_cons]
      by_cases e2 : a = p
      · subst e2
        have : getS D a = none := by
          have := mt (mem_keys D a).mpr hn.1
          simpa using this
        simp [this, Option.filter]
      · simp [e2]
    · simp only [e, decide_false, Bool.not_false, if_true]
      rw [getS_cons, getS_cons, ih hn.2]
      by_cases e2 : a = p
      · simp [e2, Option.filter, e]
      · simp [e2]
theorem getS_fold (D : List (Str × Str)) (h : (keysS D).Nodup) : ∀ (acc : List (Str × Str)), (keysS acc).Nodup → (keysS (D.foldl (fun acc x => putS acc x.1 x.2) acc)).Nodup ∧ ∀ p, getS (D.foldl (fun acc x => putS acc x.1 x.2) acc) p = (getS D p).or (getS acc p) := by
  induction D with
  | nil => exact fun acc ha => ⟨ha, fun p => by simp [getS_nil]⟩
  | cons x D ih =>
    obtain ⟨a, v⟩ := x
    have hn : a ∉ keysS D ∧ (keysS D).Nodup := List.nodup_cons.mp h
    intro acc ha
    obtain ⟨h1, h2⟩ := ih hn.2 (putS acc a v) (nd_put ha _ _)
    refine ⟨h1, fun p => ?_⟩
    rw [List.foldl_cons, h2, getS_put, getS_cons]
    by_cases e : a = p
    · subst e
      have : getS D a = none := by
        have := mt (mem_keys D a).mpr hn.1
        simpa using this
      simp [this]
    · simp [e]
theorem scope_told (T : List RowD) (line : List Nat) : (keysS (scopeD T line)).Nodup ∧ (keysS (lawScopeD T line)).Nodup ∧ ∀ p, getS (scopeD T line) p = getS (lawScopeD T line) p := by
  obtain ⟨h1, h2, h3⟩ := Told.all (T := T) line told_xml
  obtain ⟨h4, h5⟩ := getS_fold (notNil (lawRaw T line)) (nd_notNil h2) [] (by simp [keysS])
  refine ⟨h1, h4, fun p => ?_⟩
  show getS (line.foldl (lineStep T) xmlPair) p = _
  rw [h3]
  unfold lawScopeD
  have h6 : getS (notNil (lawRaw T line)) p = _ := getS_notNil (D := lawRaw T line) h2 p
  rw [h5, h6, getS_nil, Option.or_none]
  rfl
theorem scope_len (T : List RowD) (line : List Nat) : (scopeD T line).length = (lawScopeD T line).length := by
  obtain ⟨h1, h2, h3⟩ := scope_told T line
  have : (keysS (scopeD T line)).Perm (keysS (lawScopeD T line)) := (List.perm_ext_iff_of_nodup h1 h2).mpr fun p => by rw [mem_keys, mem_keys, h3]
  have := this.length_eq
  simpa [keysS] using this
theorem getS_mem {D : List (Str × Str)} (h : (keysS D).Nodup) {p u : Str} (hm : (p, u) ∈ D) : getS D p = some u := by
  induction D with
  | nil => cases hm
  | cons x D ih =>
    obtain ⟨a, v⟩ := x
    have hn : a ∉ keysS D ∧ (keysS D).Nodup := List.nodup_cons.mp h
    rw [getS_cons]
    rcases List.mem_cons.mp hm with e | hm
    · cases e; simp
    · have : a ≠ p := fun e => by subst e; exact hn.1 (List.mem_map.mpr ⟨_, hm, rfl⟩)
      rw [if_neg this]; exact ih hn.2 hm
theorem rows_of {D' : List (Str × Str)} : ∀ (D : List (Str × Str)), (∀ p u, (p, u) ∈ D → getS D' p = some u) → KeqRows (encS D') (encS D) true
  | [], _ => .nil
  | (p, u) :: D, h => by
    have h1 := KeqRows.hit (v := PyData.str u) (r := encS D) (by rw [lookup_encS, h p u (.head _)]; rfl : PySem.Spec.lookup (PyData.str p) (encS D') = some (PyData.str u)) (rows_of D fun q v hm => h q v (.tail _ hm))
    have h2 : PyData.eqv (PyData.str u) (PyData.str u) = true := by simp [PyData.eqv]
    rw [h2, Bool.true_and] at h1
    exact h1
theorem scope_rows (T : List RowD) (line : List Nat) : KeqRows (encS (lawScopeD T line)) (encS (scopeD T line)) true := by
  obtain ⟨h1, h2, h3⟩ := scope_told T line
  exact rows_of _ fun p u hm => by rw [← h3]; exact getS_mem h1 hm
end Mine
end
section
open PySem PySem.W PySem.Calls PyProof.Rows
namespace Mine
/-! ## a document grows: plain law -/
theorem rowOf_of {T : List RowD} {x : Nat} {R : RowD} (h : T[x]? = some R) : rowOf T x = R := by simp [rowOf, h]
theorem rowOf_set {T : List RowD} {i : Nat} (R : RowD) (hi : i < T.length) (x : Nat) : rowOf (T.set i R) x = if x = i then R else rowOf T x := by
  by_cases e : x = i
  · subst e; simp [rowOf, hi]
  · rw [if_neg e]
    unfold rowOf
    rw [List.getElem?_set_ne (Ne.symm e)]
theorem rowOf_snoc {T : List RowD} (R : RowD) (x : Nat) : rowOf (T ++ [R]) x = if x = T.length then R else rowOf T x := by
  by_cases e : x = T.length
  · subst e; simp [rowOf]
  · rw [if_neg e]
    unfold rowOf
    by_cases h : x < T.length
    · rw [List.getElem?_append_left h]
    · rw [List.getElem?_eq_none (by simp; omega), List.getElem?_eq_none (by omega)]
structure Grow (T T' : List RowD) : Prop where
  wf : Wf T'
  le : T.length ≤ T'.length
  le' : T'.length ≤ T.length + 1
  kind : ∀ x, x < T.length → (rowOf T' x).kind = (rowOf T x).kind
theorem Grow.cast {T T' T'' : List RowD} (G : Grow T T') (e : T'' = T') : Grow T T'' := e ▸ G
theorem grow_root {T : List RowD} (W : Wf T) {R : RowD} (hp : R.parent = none) (hk : R.kind = kRoot) (h1 : R.kids = []) (h2 : R.atts = []) (h3 : R.nss = []) (hv : R.value.length ≤ 100) : Grow T (T ++ [R]) := by
  have hl : (T ++ [R]).length = T.length + 1 := by simp
  refine ⟨?_, by omega, by omega, fun x hx => by rw [rowOf_snoc, if_neg (by omega)]⟩
  unfold Wf
  rw [hl]
  exact W.addRoot (fun x hx => by rw [rowOf_snoc, if_neg (by omega)]) (by rw [rowOf_snoc, if_pos rfl]) hp hk h1 h2 h3 hv
theorem grow_add {T : List RowD} (W : Wf T) {i : Nat} {Rp R : RowD} (hi : T[i]? = some Rp) (hp : R.parent = some i) (hk : R.kids = []) (ha : R.atts = []) (hn : R.nss = []) (hv : R.value.length ≤ 100) (hr : R.kind ≠ kRoot)
    (hc : if R.kind = kNs ∨ R.kind = kAtt then Rp.kind = kElt else isPar Rp.kind = true) : Grow T ((T ++ [R]).set i (addTo R.kind Rp T.length)) := by
  have hlt := row_lt hi
  have hri := rowOf_of hi
  have hl : ((T ++ [R]).set i (addTo R.kind Rp T.length)).length = T.length + 1 := by simp
  have hrow : ∀ x, rowOf ((T ++ [R]).set i (addTo R.kind Rp T.length)) x = addR (rowOf T) T.length i R x := fun x => by
    rw [rowOf_set _ (by simp; omega), rowOf_snoc]
    unfold addR
    by_cases e : x = T.length
    · rw [if_pos e, if_pos e, if_neg (by omega)]
    · rw [if_neg e, if_neg e]
      by_cases e2 : x = i
      · rw [if_pos e2, if_pos e2, hri]
      · rw [if_neg e2, if_neg e2]
  refine ⟨?_, by omega, by omega, fun x hx => ?_⟩
  · unfold Wf
    rw [hl]
    exact (W.add hlt hp hk ha hn hv hr (by rw [hri]; exact hc)).ext fun x _ => hrow x
  · rw [hrow]
    unfold addR
    rw [if_neg (by omega)]
    by_cases e2 : x = i
    · rw [if_pos e2, e2]; rfl
    · rw [if_neg e2]
theorem grow_val {T : List RowD} (W : Wf T) {i : Nat} {R R' : RowD} (hi : T[i]? = some R) (h1 : R'.kind = R.kind) (h2 : R'.parent = R.parent) (h3 : R'.kids = R.kids) (h4 : R'.atts = R.atts) (h5 : R'.nss = R.nss) (hv : R'.value.length ≤ 100) : Grow T (T.set i R') := by
  have hlt := row_lt hi
  have hri := rowOf_of hi
  have hl : (T.set i R').length = T.length := by simp
  have hrow := rowOf_set (T := T) R' hlt
  have both : ∀ (x : Nat), rowOf (T.set i R') x = rowOf T x ∨ (x = i ∧ rowOf (T.set i R') x = R') := fun x => by
    rw [hrow]
    by_cases e : x = i
    · exact .inr ⟨e, if_pos e⟩
    · exact .inl (if_neg e)
  refine ⟨?_, by omega, by omega, fun x hx => ?_⟩
  · unfold Wf
    rw [hl]
    refine W.same ⟨fun x _ => ?_, fun x _ => ?_, fun x _ => ?_, fun x _ => ?_, fun x _ => ?_⟩ fun x hx => ?_
    · rcases both x with h | ⟨rfl, h⟩ <;> rw [h]; rw [hri]; exact h1
    · rcases both x with h | ⟨rfl, h⟩ <;> rw [h]; rw [hri]; exact h2
    · rcases both x with h | ⟨rfl, h⟩ <;> rw [h]; rw [hri]; exact h3
    · rcases both x with h | ⟨rfl, h⟩ <;> rw [h]; rw [hri]; exact h4
    · rcases both x with h | ⟨rfl, h⟩ <;> rw [h]; rw [hri]; exact h5
    · rcases both x with h | ⟨rfl, h⟩ <;> rw [h]
      · exact W.vals x hx
      · exact hv
  · rcases both x with h | ⟨rfl, h⟩ <;> rw [h]; rw [hri]; exact h1
theorem addTo_kid {k : Str} {R : RowD} {n : Nat} (h1 : k ≠ kNs) (h2 : k ≠ kAtt) : addTo k R n = { R with kids := R.kids ++ [n] } := by simp [addTo, h1, h2]
theorem addTo_att {R : RowD} {n : Nat} : addTo kAtt R n = { R with atts := R.atts ++ [n] } := by
  have h1 : kAtt ≠ kNs := kinds_ne.1.symm
  simp [addTo, h1]
theorem addTo_ns {R : RowD} {n : Nat} : addTo kNs R n = { R with nss := R.nss ++ [n] } := by
  have h1 : kNs ≠ kAtt := kinds_ne.1
  simp [addTo, h1]
/-! the move -/
structure MvOk (T : List RowD) (i j q : Nat) (l : List Nat) (R Rj Rq : RowD) : Prop where
  hi : T[i]? = some R
  hj : T[j]? = some Rj
  hq : T[q]? = some Rq
  hpar : R.parent = some j
  hm : i ∈ Rj.kids
  hij : i ≠ j
  hqi : q ≠ i
  hu : Up T q l
  hc : Ch (rowOf T) q l
  hil : i ∉ l
def mvT1 (T : List RowD) (i j : Nat) (R Rj : RowD) : List RowD := (T.set j { Rj with kids := Rj.kids.erase i }).set i { R with parent := none }
theorem kid_of {T : List RowD} (W : Wf T) {i j : Nat} {R : RowD} (hi : T[i]? = some R) (hp : R.parent = some j) (hk : R.kind = kElt) : ∃ Rj, T[j]? = some Rj ∧ i ∈ Rj.kids ∧ i ≠ j := by
  have hlt := row_lt hi
  have hri := rowOf_of hi
  obtain ⟨h1, h2⟩ := W.par i hlt j (by rw [hri]; exact hp)
  refine ⟨rowOf T j, row_get h1, ?_, fun e => ?_⟩
  · rw [sibs_eq, hri, hk, if_neg kinds_ne.2.1.symm, if_neg kinds_ne.2.2.2.2.1.symm] at h2; exact h2
  · subst e
    obtain ⟨l, hl⟩ := W.up i hlt
    have h3 : Ch (rowOf T) i (i :: l) := .step (by rw [hri]; exact hp) hl
    have := h3.det hl
    have := congrArg List.length this
    simp at this
theorem mv_rows {T : List RowD} {i j q : Nat} {l : List Nat} {R Rj Rq : RowD} (M : MvOk T i j q l R Rj Rq) : ∃ Rq1, (mvT1 T i j R Rj)[q]? = some Rq1 ∧ Rq1.kind = Rq.kind ∧ Rq1.kids.length ≤ Rq.kids.length ∧ Rq1 = { Rq with kids := if q = j then Rq.kids.erase i else Rq.kids } := by
  have hlq := row_lt M.hq
  have h1 : (mvT1 T i j R Rj)[q]? = (T.set j { Rj with kids := Rj.kids.erase i })[q]? := by
    unfold mvT1; rw [List.getElem?_set_ne (Ne.symm M.hqi)]
  by_cases e : q = j
  · subst e
    have hR : Rj = Rq := by have := M.hj; rw [M.hq] at this; cases this; rfl
    subst hR
    refine ⟨{ Rj with kids := Rj.kids.erase i }, by rw [h1]; simp [hlq], rfl, List.length_erase_le, by simp⟩
  · refine ⟨Rq, by rw [h1, List.getElem?_set_ne (Ne.symm e)]; exact M.hq, rfl, Nat.le_refl _, by simp [e]⟩
theorem mv_up {T : List RowD} {i j q : Nat} {R Rj : RowD} (hj : T[j]? = some Rj) : ∀ {l : List Nat}, Up T q l → i ∉ l → Up (mvT1 T i j R Rj) q l := by
  intro l h
  have key : ∀ {x : Nat} {Rx : RowD}, x ≠ i → T[x]? = some Rx → ∃ R', (mvT1 T i j R Rj)[x]? = some R' ∧ R'.parent = Rx.parent := fun {x Rx} hx h => by
    have hlx := row_lt h
    unfold mvT1
    rw [List.getElem?_set_ne (Ne.symm hx)]
    by_cases e : x = j
    · subst e
      rw [h] at hj; cases hj
      exact ⟨{ Rj with kids := Rj.kids.erase i }, by simp [hlx], rfl⟩
    · exact ⟨Rx, by rw [List.getElem?_set_ne (Ne.symm e)]; exact h, rfl⟩
  induction h with
  | top h1 h2 =>
    intro hn
    simp only [List.mem_singleton] at hn
    obtain ⟨R', h3, h4⟩ := key (Ne.symm hn) h1
    exact .top h3 (h4.trans h2)
  | step h1 h2 _ ih =>
    intro hn
    simp only [List.mem_cons, not_or] at hn
    obtain ⟨R', h3, h4⟩ := key (Ne.symm hn.1) h1
    exact .step h3 (h4.trans h2) (ih hn.2)
theorem grow_move {T : List RowD} (W : Wf T) {i j q : Nat} {l : List Nat} {R Rj Rq Rq1 : RowD} (M : MvOk T i j q l R Rj Rq) (hk : R.kind = kElt) (hpq : isPar Rq.kind = true) (h1 : (mvT1 T i j R Rj)[q]? = some Rq1) :
    Grow T (((mvT1 T i j R Rj).set q { Rq1 with kids := i :: Rq1.kids }).set i { R with parent := some q }) := by
  have hli := row_lt M.hi
  have hlj := row_lt M.hj
  have hlq := row_lt M.hq
  obtain ⟨Rq2, e1, _, _, e2⟩ := mv_rows M
  rw [h1] at e1; cases e1
  have hl : (((mvT1 T i j R Rj).set q { Rq1 with kids := i :: Rq1.kids }).set i { R with parent := some q }).length = T.length := by simp [mvT1]
  have hrow : ∀ x, rowOf (((mvT1 T i j R Rj).set q { Rq1 with kids := i :: Rq1.kids }).set i { R with parent := some q }) x = movR (rowOf T) i j q x := fun x => by
    rw [rowOf_set _ (by simp [mvT1]; exact hli), rowOf_set _ (by simp [mvT1]; exact hlq)]
    unfold mvT1
    rw [rowOf_set _ (by simp; exact hli), rowOf_set _ hlj]
    unfold movR
    by_cases a : x = i
    · subst a
      rw [if_pos rfl, rowOf_of M.hi, if_pos rfl, if_neg (Ne.symm M.hqi), if_neg M.hij]
      simp
    · rw [if_neg a, if_neg a, if_neg a]
      by_cases b : x = q
      · subst b
        rw [if_pos rfl, if_pos rfl, rowOf_of M.hq, e2]
        rfl
      · rw [if_neg b, if_neg b]
        by_cases c : x = j
        · subst c
          rw [if_pos rfl, if_pos rfl, rowOf_of M.hj]
          simp
        · rw [if_neg c, if_neg c]; simp
  refine ⟨?_, by omega, by omega, fun x hx => by rw [hrow]; rfl⟩
  unfold Wf
  rw [hl]
  exact (W.move hli (by rw [rowOf_of M.hi]; exact M.hpar) (by rw [rowOf_of M.hi]; exact hk) hlq (by rw [rowOf_of M.hq]; exact hpq) M.hc M.hil).ext fun x _ => hrow x
/-! the document -/
structure DocI (n0 : Nat) (T : List RowD) (els : List Nat) (b : Nat) : Prop where
  wf : Wf T
  lt : n0 < T.length
  le : T.length ≤ b
  rk : (rowOf T n0).kind = kRoot
  els : ∀ e ∈ els, e < T.length ∧ (rowOf T e).kind = kElt
def Kept (T0 T : List RowD) : Prop := ∀ x, x < T0.length → (rowOf T x).kind = (rowOf T0 x).kind
theorem Kept.grow {T0 T T' : List RowD} (h : Kept T0 T) (hl : T0.length ≤ T.length) (G : Grow T T') : Kept T0 T' := fun x hx => (G.kind x (by omega)).trans (h x hx)
theorem DocI.grow {n0 : Nat} {T T' : List RowD} {els : List Nat} {b : Nat} (D : DocI n0 T els b) (G : Grow T T') : DocI n0 T' els (b + 1) := by
  have h1 := G.le; have h2 := G.le'; have h3 := D.lt; have h4 := D.le
  refine ⟨G.wf, by omega, by omega, (G.kind _ h3).trans D.rk, fun e he => ?_⟩
  obtain ⟨a, c⟩ := D.els e he
  exact ⟨by omega, (G.kind e a).trans c⟩
theorem DocI.more {n0 : Nat} {T : List RowD} {els : List Nat} {b e : Nat} (D : DocI n0 T els b) (he : e < T.length) (hk : (rowOf T e).kind = kElt) : DocI n0 T (els ++ [e]) b :=
  ⟨D.wf, D.lt, D.le, D.rk, fun x hx => by
    rcases List.mem_append.mp hx with h | h
    · exact D.els x h
    · rw [List.mem_singleton.mp h]; exact ⟨he, hk⟩⟩
theorem DocI.le_b {n0 : Nat} {T : List RowD} {els : List Nat} {b b' : Nat} (D : DocI n0 T els b) (h : b ≤ b') : DocI n0 T els b' := ⟨D.wf, D.lt, Nat.le_trans D.le h, D.rk, D.els⟩
/-- what a row of the document's elements says -/
theorem DocI.el {n0 : Nat} {T : List RowD} {els : List Nat} {b e : Nat} (D : DocI n0 T els b) (he : e ∈ els) : ∃ R, T[e]? = some R ∧ R.kind = kElt ∧ isPar R.kind = true ∧ R.kids.length ≤ T.length ∧ R.atts.length ≤ T.length ∧ R.nss.length ≤ T.length ∧ (∀ n ∈ R.atts, n < T.length) ∧ (∀ n ∈ R.nss, n < T.length) ∧ ∃ j, R.parent = some j := by
  obtain ⟨a, c⟩ := D.els e he
  obtain ⟨n1, n2, n3⟩ := D.wf.nd e a
  refine ⟨rowOf T e, row_get a, c, isPar_iff.mpr (.inr c), nodup_le _ _ n1 fun x hx => (D.wf.kid e a x hx).1, nodup_le _ _ n2 fun x hx => (D.wf.att e a x hx).1, nodup_le _ _ n3 fun x hx => (D.wf.ns e a x hx).1, fun x hx => (D.wf.att e a x hx).1, fun x hx => (D.wf.ns e a x hx).1, ?_⟩
  cases h : (rowOf T e).parent with
  | some j => exact ⟨j, rfl⟩
  | none =>
    have := (D.wf.root e a).mp h
    rw [c] at this; exact absurd this kinds_ne.2.2.2.2.2.2.1
theorem DocI.up {n0 : Nat} {T : List RowD} {els : List Nat} {b e : Nat} (D : DocI n0 T els b) (he : e ∈ els) : ∃ l, Ch (rowOf T) e l ∧ Up T e l := by
  obtain ⟨a, c⟩ := D.els e he
  obtain ⟨l, hl⟩ := D.wf.up e a
  exact ⟨l, hl, hl.isUp D.wf a⟩
theorem DocI.mv {n0 : Nat} {T : List RowD} {els : List Nat} {b i q : Nat} {l : List Nat} {R Rq : RowD} {j : Nat} (D : DocI n0 T els b) (hie : i ∈ els) (hi : T[i]? = some R) (hq : T[q]? = some Rq) (hp : R.parent = some j) (hc : Ch (rowOf T) q l) (hu : Up T q l) (hil : i ∉ l) : ∃ Rj, MvOk T i j q l R Rj Rq := by
  have hk : R.kind = kElt := by rw [← rowOf_of hi]; exact (D.els i hie).2
  obtain ⟨Rj, h1, h2, h3⟩ := kid_of D.wf hi hp hk
  exact ⟨Rj, hi, h1, hq, hp, h2, h3, fun e => hil (e ▸ hc.self), hu, hc, hil⟩
end Mine
end
namespace Mine
section
local macro_rules | `(tactic| walk_at "mman") => `(tactic| (fail_if_success (with_reducible first | refine st1 ?_ | refine st2 ?_ | refine st3 ?_ | refine st4 ?_ | refine st5 ?_ | refine st6 ?_ | refine st7 ?_ | refine st8 ?_ | refine st9 ?_ | refine st0 ?_)))
local macro_rules | `(tactic| walk_at "mrng") => `(tactic| (fail_if_success (with_reducible first | refine stA ?_)))
local macro_rules | `(tactic| walk_at "mifs") => `(tactic| (fail_if_success (with_reducible first | refine stB ?_)))
local macro_rules | `(tactic| walk_at "mslc") => `(tactic| (fail_if_success (with_reducible first | refine stC ?_ | refine stD ?_ | refine stE ?_)))
local macro_rules | `(tactic| walk_at "mw") => `(tactic| ((first | walk1 | walk_at "gq" | (k_unfold; (try dsimp only)) | (dsimp only; first | walk1 | (k_unfold; (try dsimp only))))))
local macro_rules | `(tactic| walk_at "q") => `(tactic| (with_reducible assumption))
local macro_rules | `(tactic| walk_at "mT") => `(tactic| (first | with_reducible assumption | exact TreeAt.ext (by with_reducible assumption) (Fr.keep (by with_reducible assumption)) | exact tree_now (by with_reducible assumption) (by with_reducible assumption) (by intro _ h9; repeat (first | exact h9 | refine List.mem_cons_of_mem _ ?_ | refine List.mem_append_right _ ?_))))
local macro_rules | `(tactic| walk_at "mX") => `(tactic| (first | with_reducible assumption | exact Frag.In.keeps (by with_reducible assumption) (Fr.keep (by with_reducible assumption))))
local macro_rules | `(tactic| walk_at "mR") => `(tactic| (first | with_reducible assumption | exact RowAt.ext (by with_reducible assumption) (Fr.keep (by with_reducible assumption)) | exact row_at (by with_reducible assumption) (by with_reducible assumption) (by (walk_at "mT"))))
local macro_rules | `(tactic| walk_at "mA") => `(tactic| (first | with_reducible assumption | exact AOk.le (by with_reducible assumption) (by omega) (by omega)))
local macro_rules | `(tactic| walk_at "mgo") => `(tactic| (repeat' (first | (walk_at "mman"; walk_at "mw"))))
local macro_rules | `(tactic| walk_at "execs cons") => `(tactic| (refine gq_cons ?_; intro q7 g7))
local macro_rules | `(tactic| walk_at "gq") => `(tactic| (refine Gq.use g7 ?_; clear g7; (try clear q7); (try dsimp only)))
local macro_rules | `(tactic| walk_at "exec Return some") => `(tactic| refine wpAny_Return_some ?_)
local macro_rules | `(tactic| walk_at "eval Name") => `(tactic| ((with_reducible show wpAny _ _ (eval (PySem.Expr.Name _ _) (envOf _ _ _ _ _)) _ _ _); k_dflt (refine' ld (by walk_at "q") (by exact rfl) ?_; k_whole)))
local macro_rules | `(tactic| walk_at "getAttr ref") => `(tactic| ((with_reducible show wpAny _ _ (getAttr (Value.ref (TAd.t _)) (PySem.Str.ofString "rows") _) _ _ _); (refine' g_rows (by (walk_at "mX")) (by (walk_at "mT")) ?_; k_whole)))
set_option hygiene true in
local macro_rules | `(tactic| walk_at "getAttr ref") => `(tactic| with_reducible ((show wpAny _ _ (getAttr (Value.ref (Plc.r _)) _ _) _ _ _); first
  | ((first | refine' g_kids ?X ?R ?_ | refine' g_atts ?X ?R ?_ | refine' g_nss ?X ?R ?_); (case X => (walk_at "mX")); (case R => (walk_at "mR")); k_whole)
  | (refine' g_parent ?X ?R ?_; (case X => (walk_at "mX")); (case R => (walk_at "mR")); k_whole; intro _ _)
  | ((first | refine' g_kind ?X ?R ?_ | refine' g_name ?X ?R ?_ | refine' g_value ?X ?R ?_ | refine' g_uri ?X ?R ?_ | refine' g_local ?X ?R ?_); (case X => (walk_at "mX")); (case R => (walk_at "mR")); k_whole; intro _)))
local macro_rules | `(tactic| walk_at "getMethod ref") => `(tactic| ((with_reducible show wpAny _ _ (getMethod (Value.ref (TAd.t _)) _ _) _ _ _); (k_dflt (refine' m_tree (by (walk_at "mX")) (by (walk_at "mT")) (by k_is) (by k_is) (by k_is) (by exact fun _ _ _ => rfl) ?_; k_whole))))
local macro_rules | `(tactic| walk_at "call builtin:len") => `(tactic| ((with_reducible show wpAny _ _ (call _ [Value.ref (TAd.rl _)]) _ _ _); (refine' len_rows (by (walk_at "mT")) ?_; k_whole; intro _)))
local macro_rules | `(tactic| walk_at "subscriptTail") => `(tactic| ((with_reducible show wpAny _ _ (subscriptTail _ _ (Value.ref (TAd.rl _)) (Value.int _ _)) _ _ _); (k_dflt (refine' item_rows (by (walk_at "mT")) (by walk_at "q") ?_ (by with_unfolding_all rfl); k_whole))))
local macro_rules | `(tactic| walk_at "eval Call Attribute") => `(tactic| (k_dflt (refine' mcall ?_ (by exact rfl) (by exact rfl) (by exact rfl); k_whole)))
local macro_rules | `(tactic| walk_at "eval Attribute Call") => `(tactic| (k_dflt (refine' mattr ?_ (by exact rfl); k_whole)))
local macro_rules | `(tactic| walk_at "eval Attribute") => `(tactic| (k_dflt (refine' mattr ?_ (by exact rfl); k_whole)))
local macro_rules | `(tactic| walk_at "mL") => `(tactic| (first | exact RowAt.kids (by (walk_at "mR")) | exact RowAt.atts (by (walk_at "mR")) | exact RowAt.nss (by (walk_at "mR"))))
local macro_rules | `(tactic| walk_at "call type:list") => `(tactic| ((with_reducible first | (show wpAny _ _ (call _ [Value.ref (Plc.c _)]) _ _ _) | (show wpAny _ _ (call _ [Value.ref (Plc.a _)]) _ _ _) | (show wpAny _ _ (call _ [Value.ref (Plc.n _)]) _ _ _)); (refine' copy_ints (by walk_at "q") (by walk_at "q") (by walk_at "mL") (by walk_at "q") ?_; k_whole; intro _ _ _ _ _ _ _ _)))
local macro_rules | `(tactic| units_room) => `(tactic| first | exact AOk.cl64 (by walk_at "q") | exact AOk.cl (by walk_at "q"))
local macro_rules | `(tactic| k_units) => `(tactic| first | exact AOk.cl64 (by walk_at "q") | exact AOk.cl (by walk_at "q"))
local macro_rules | `(tactic| k_room) => `(tactic| exact AOk.room (by walk_at "q"))
local macro_rules | `(tactic| walk_at "call builtin:list.pop") => `(tactic| ((with_reducible show wpAny _ _ (call (Value.builtin _) [Value.ref _]) _ _ _); k_dflt (refine' pop_snoc (by walk_at "q") (by walk_at "q") (by k_upd) (by omega) ?_; k_whole; intro _ _ _)))
set_option hygiene true in
local macro_rules | `(tactic| walk_at "binaryOp Add ref ref") => `(tactic| ((with_reducible show wpAny _ _ (binaryOp _ (Value.ref _) (Value.ref _)) _ _ _); k_dflt (refine' kmk_add_ints (by walk_at "q") (by walk_at "q") (by is_list) (by is_list) (by l_ints) (by l_ints) ?_ (by ((simp only [sizeLine_eq, List.length_reverse, natInts_length, List.length_append, List.length_cons, List.length_nil]); omega))); intro D' ws' h' F' N' l1 hI'; (try k_lt l1); (try k_sweep)))
local macro_rules | `(tactic| walk_at "eval Name") => `(tactic| ((with_reducible show wpAny _ _ (eval (PySem.Expr.Name _ _) (envOfC _ _ _ _ _)) _ _ _); k_dflt (first
  | (refine' ldLoc (by walk_at "q") (by exact rfl) ?_; k_whole)
  | (refine' ldCN (by walk_at "q") (by exact rfl) (by k_mem) (by walk_at "q") ?_; k_whole)
  | (refine' ldGC (by walk_at "q") (by walk_at "q") (by walk_at "q") (by k_is) ?_; k_whole)
  | (refine' ldBC (by walk_at "q") (by walk_at "q") (by walk_at "q") (by k_is) (by boot_fast) (by decide) ?_; k_whole))))
set_option hygiene true in
local macro_rules | `(tactic| walk_at "eval Name") => `(tactic| ((with_reducible show wpAny _ _ (eval (PySem.Expr.Name _ _) (compEnvC _ _ _ _)) _ _ _); k_dflt (first
  | (refine' LCgL.ld_own (by walk_at "q") (by k_mem) (by walk_at "q") (by walk_at "q") ?_; k_whole)
  | (refine' lcf_free ?N ?c ?m ?d ?_ ?a ?b; (case a => exact rfl); (case b => exact rfl); (case N => walk_at "q"); (case c => exact rfl); (case m => k_mem); (case d => walk_at "q"); k_whole)
  | (refine' LCgL.ld_global (by walk_at "q") (by walk_at "q") (by walk_at "q") (by k_is) ?_; k_whole))))
local macro_rules | `(tactic| walk_at "unpackItems ref") => `(tactic| (k_dflt (refine' unpackItemsN_ (by walk_at "q") (by walk_at "q") (by exact News.isTup (by walk_at "q") (by k_mem)) (by exact AOk.hd (by walk_at "q")) (by exact rfl) ?_; k_whole); intro _ _ _))
theorem topOff_acc : True := by
  w_top off
  trivial
section
variable {prog : Program} {w : World} {loose : List Str} {mean : ExcName → Option Value} {mg mb : Str → Option Value}
theorem row_S (Tr : List RowD) (ad : TAd) (i : Nat) (pl : Plc) (tk : Tok) (hp : ad.ps[i]? = some pl) (hi : i < Tr.length) :
    Reads1 prog w loose mean mg mb 156 [.ref ad.t, .int (i : Nat) tk] 1 3 (fun h => TreeH h Tr ad) (fun h v h' => v = .ref pl.r) := by
  intro A s Q E hA T X hT ret
  refine' enterK [(Str.ofString "self", .ref ad.t), (Str.ofString "node", .int (i : Nat) tk)] X T ?k6 ?k7 ?k8 ?k9 ?kB ?_ ?c2 ?c3 ?c4 ?c5
  (case k6 => k_dflt k_is); (case k7 => k_dflt k_is); (case k8 => with_reducible assumption); (case k9 => exact rfl); (case kB => exact rfl); (case c5 => decide); (case c2 => exact rfl); (case c3 => exact rfl); (case c4 => exact rfl)
  intro L h₁ F N hA'
  k_fold
  (walk_at "mgo")
  exact ret _ _ _ F.keep rfl
theorem kind_S (Tr : List RowD) (ad : TAd) (i : Nat) (R : RowD) (tk : Tok) (hi : Tr[i]? = some R) :
    Reads1 prog w loose mean mg mb 233 [.ref ad.t, .int (i : Nat) tk] 2 6 (fun h => TreeH h Tr ad) (fun h v h' => ∃ t, v = .str R.kind t) := by
  intro A s Q E hA T X hT ret
  obtain ⟨pl, hp, hR⟩ := hT.row_of hi; have hl := (List.getElem?_eq_some_iff.mp hi).1
  refine' enterK [(Str.ofString "self", .ref ad.t), (Str.ofString "node", .int (i : Nat) tk)] X T ?k6 ?k7 ?k8 ?k9 ?kB ?_ ?c2 ?c3 ?c4 ?c5
  (case k6 => k_dflt k_is); (case k7 => k_dflt k_is); (case k8 => with_reducible assumption); (case k9 => exact rfl); (case kB => exact rfl); (case c5 => decide); (case c2 => exact rfl); (case c3 => exact rfl); (case c4 => exact rfl)
  intro L h₁ F N hA'
  k_fold
  (walk_at "mgo")
  (refine' Reads1.use (row_S Tr ad i pl tk hp hl) ?F9 ?N9 ?X9 ?T9 ?A9 ?p9 ?_; (case F9 => with_reducible assumption); (case N9 => with_reducible assumption); (case X9 => with_reducible assumption); (case T9 => with_reducible assumption); (case A9 => (walk_at "mA")); (case p9 => (walk_at "mT"))); intro v9 h9 tk9 F9 N9 e9 p9; subst p9; (try dsimp only)
  (walk_at "mgo")
  exact ret _ _ _ F9.keep ⟨_, rfl⟩
theorem name_S (Tr : List RowD) (ad : TAd) (i : Nat) (R : RowD) (tk : Tok) (hi : Tr[i]? = some R) :
    Reads1 prog w loose mean mg mb 240 [.ref ad.t, .int (i : Nat) tk] 2 6 (fun h => TreeH h Tr ad) (fun h v h' => ∃ t, v = .str R.name t) := by
  intro A s Q E hA T X hT ret
  obtain ⟨pl, hp, hR⟩ := hT.row_of hi; have hl := (List.getElem?_eq_some_iff.mp hi).1
  refine' enterK [(Str.ofString "self", .ref ad.t), (Str.ofString "node", .int (i : Nat) tk)] X T ?k6 ?k7 ?k8 ?k9 ?kB ?_ ?c2 ?c3 ?c4 ?c5
  (case k6 => k_dflt k_is); (case k7 => k_dflt k_is); (case k8 => with_reducible assumption); (case k9 => exact rfl); (case kB => exact rfl); (case c5 => decide); (case c2 => exact rfl); (case c3 => exact rfl); (case c4 => exact rfl)
  intro L h₁ F N hA'
  k_fold
  (walk_at "mgo")
  (refine' Reads1.use (row_S Tr ad i pl tk hp hl) ?F9 ?N9 ?X9 ?T9 ?A9 ?p9 ?_; (case F9 => with_reducible assumption); (case N9 => with_reducible assumption); (case X9 => with_reducible assumption); (case T9 => with_reducible assumption); (case A9 => (walk_at "mA")); (case p9 => (walk_at "mT"))); intro v9 h9 tk9 F9 N9 e9 p9; subst p9; (try dsimp only)
  (walk_at "mgo")
  exact ret _ _ _ F9.keep ⟨_, rfl⟩
theorem value_S (Tr : List RowD) (ad : TAd) (i : Nat) (R : RowD) (tk : Tok) (hi : Tr[i]? = some R) :
    Reads1 prog w loose mean mg mb 261 [.ref ad.t, .int (i : Nat) tk] 2 6 (fun h => TreeH h Tr ad) (fun h v h' => ∃ t, v = .str R.value t) := by
  intro A s Q E hA T X hT ret
  obtain ⟨pl, hp, hR⟩ := hT.row_of hi; have hl := (List.getElem?_eq_some_iff.mp hi).1
  refine' enterK [(Str.ofString "self", .ref ad.t), (Str.ofString "node", .int (i : Nat) tk)] X T ?k6 ?k7 ?k8 ?k9 ?kB ?_ ?c2 ?c3 ?c4 ?c5
  (case k6 => k_dflt k_is); (case k7 => k_dflt k_is); (case k8 => with_reducible assumption); (case k9 => exact rfl); (case kB => exact rfl); (case c5 => decide); (case c2 => exact rfl); (case c3 => exact rfl); (case c4 => exact rfl)
  intro L h₁ F N hA'
  k_fold
  (walk_at "mgo")
  (refine' Reads1.use (row_S Tr ad i pl tk hp hl) ?F9 ?N9 ?X9 ?T9 ?A9 ?p9 ?_; (case F9 => with_reducible assumption); (case N9 => with_reducible assumption); (case X9 => with_reducible assumption); (case T9 => with_reducible assumption); (case A9 => (walk_at "mA")); (case p9 => (walk_at "mT"))); intro v9 h9 tk9 F9 N9 e9 p9; subst p9; (try dsimp only)
  (walk_at "mgo")
  exact ret _ _ _ F9.keep ⟨_, rfl⟩
theorem parent_S (Tr : List RowD) (ad : TAd) (i : Nat) (R : RowD) (tk : Tok) (hi : Tr[i]? = some R) :
    Reads1 prog w loose mean mg mb 268 [.ref ad.t, .int (i : Nat) tk] 2 6 (fun h => TreeH h Tr ad) (fun h v h' => ParV v R.parent) := by
  intro A s Q E hA T X hT ret
  obtain ⟨pl, hp, hR⟩ := hT.row_of hi; have hl := (List.getElem?_eq_some_iff.mp hi).1
  refine' enterK [(Str.ofString "self", .ref ad.t), (Str.ofString "node", .int (i : Nat) tk)] X T ?k6 ?k7 ?k8 ?k9 ?kB ?_ ?c2 ?c3 ?c4 ?c5
  (case k6 => k_dflt k_is); (case k7 => k_dflt k_is); (case k8 => with_reducible assumption); (case k9 => exact rfl); (case kB => exact rfl); (case c5 => decide); (case c2 => exact rfl); (case c3 => exact rfl); (case c4 => exact rfl)
  intro L h₁ F N hA'
  k_fold
  (walk_at "mgo")
  (refine' Reads1.use (row_S Tr ad i pl tk hp hl) ?F9 ?N9 ?X9 ?T9 ?A9 ?p9 ?_; (case F9 => with_reducible assumption); (case N9 => with_reducible assumption); (case X9 => with_reducible assumption); (case T9 => with_reducible assumption); (case A9 => (walk_at "mA")); (case p9 => (walk_at "mT"))); intro v9 h9 tk9 F9 N9 e9 p9; subst p9; (try dsimp only)
  (walk_at "mgo")
  exact ret _ _ _ F9.keep (by with_reducible assumption)
theorem children_S (Tr : List RowD) (ad : TAd) (i : Nat) (R : RowD) (tk : Tok) (hi : Tr[i]? = some R) :
    Reads1 prog w loose mean mg mb 275 [.ref ad.t, .int (i : Nat) tk] 2 6 (fun h => TreeH h Tr ad) (fun h v h' => ∃ o, NewObj h v h' o ∧ ListOf R.kids o) := by
  intro A s Q E hA T X hT ret
  obtain ⟨pl, hp, hR⟩ := hT.row_of hi; have hl := (List.getElem?_eq_some_iff.mp hi).1; have hz := hT.lens i R hi; obtain ⟨hz1, hz2, hz3⟩ := hz
  refine' enterK [(Str.ofString "self", .ref ad.t), (Str.ofString "node", .int (i : Nat) tk)] X T ?k6 ?k7 ?k8 ?k9 ?kB ?_ ?c2 ?c3 ?c4 ?c5
  (case k6 => k_dflt k_is); (case k7 => k_dflt k_is); (case k8 => with_reducible assumption); (case k9 => exact rfl); (case kB => exact rfl); (case c5 => decide); (case c2 => exact rfl); (case c3 => exact rfl); (case c4 => exact rfl)
  intro L h₁ F N hA'
  k_fold
  (walk_at "mgo")
  (refine' Reads1.use (row_S Tr ad i pl tk hp hl) ?F9 ?N9 ?X9 ?T9 ?A9 ?p9 ?_; (case F9 => with_reducible assumption); (case N9 => with_reducible assumption); (case X9 => with_reducible assumption); (case T9 => with_reducible assumption); (case A9 => (walk_at "mA")); (case p9 => (walk_at "mT"))); intro v9 h9 tk9 F9 N9 e9 p9; subst p9; (try dsimp only)
  (walk_at "mgo")
  rename_i hI F8 N8 l8
  exact ret _ _ _ F8.keep ⟨_, newObj_of N8 (.head _), _, _, rfl, hI⟩
theorem attributes_S (Tr : List RowD) (ad : TAd) (i : Nat) (R : RowD) (tk : Tok) (hi : Tr[i]? = some R) :
    Reads1 prog w loose mean mg mb 282 [.ref ad.t, .int (i : Nat) tk] 2 6 (fun h => TreeH h Tr ad) (fun h v h' => ∃ o, NewObj h v h' o ∧ ListOf R.atts o) := by
  intro A s Q E hA T X hT ret
  obtain ⟨pl, hp, hR⟩ := hT.row_of hi; have hl := (List.getElem?_eq_some_iff.mp hi).1; have hz := hT.lens i R hi; obtain ⟨hz1, hz2, hz3⟩ := hz
  refine' enterK [(Str.ofString "self", .ref ad.t), (Str.ofString "node", .int (i : Nat) tk)] X T ?k6 ?k7 ?k8 ?k9 ?kB ?_ ?c2 ?c3 ?c4 ?c5
  (case k6 => k_dflt k_is); (case k7 => k_dflt k_is); (case k8 => with_reducible assumption); (case k9 => exact rfl); (case kB => exact rfl); (case c5 => decide); (case c2 => exact rfl); (case c3 => exact rfl); (case c4 => exact rfl)
  intro L h₁ F N hA'
  k_fold
  (walk_at "mgo")
  (refine' Reads1.use (row_S Tr ad i pl tk hp hl) ?F9 ?N9 ?X9 ?T9 ?A9 ?p9 ?_; (case F9 => with_reducible assumption); (case N9 => with_reducible assumption); (case X9 => with_reducible assumption); (case T9 => with_reducible assumption); (case A9 => (walk_at "mA")); (case p9 => (walk_at "mT"))); intro v9 h9 tk9 F9 N9 e9 p9; subst p9; (try dsimp only)
  (walk_at "mgo")
  rename_i hI F8 N8 l8
  exact ret _ _ _ F8.keep ⟨_, newObj_of N8 (.head _), _, _, rfl, hI⟩
theorem namespaces_S (Tr : List RowD) (ad : TAd) (i : Nat) (R : RowD) (tk : Tok) (hi : Tr[i]? = some R) :
    Reads1 prog w loose mean mg mb 289 [.ref ad.t, .int (i : Nat) tk] 2 6 (fun h => TreeH h Tr ad) (fun h v h' => ∃ o, NewObj h v h' o ∧ ListOf R.nss o) := by
  intro A s Q E hA T X hT ret
  obtain ⟨pl, hp, hR⟩ := hT.row_of hi; have hl := (List.getElem?_eq_some_iff.mp hi).1; have hz := hT.lens i R hi; obtain ⟨hz1, hz2, hz3⟩ := hz
  refine' enterK [(Str.ofString "self", .ref ad.t), (Str.ofString "node", .int (i : Nat) tk)] X T ?k6 ?k7 ?k8 ?k9 ?kB ?_ ?c2 ?c3 ?c4 ?c5
  (case k6 => k_dflt k_is); (case k7 => k_dflt k_is); (case k8 => with_reducible assumption); (case k9 => exact rfl); (case kB => exact rfl); (case c5 => decide); (case c2 => exact rfl); (case c3 => exact rfl); (case c4 => exact rfl)
  intro L h₁ F N hA'
  k_fold
  (walk_at "mgo")
  (refine' Reads1.use (row_S Tr ad i pl tk hp hl) ?F9 ?N9 ?X9 ?T9 ?A9 ?p9 ?_; (case F9 => with_reducible assumption); (case N9 => with_reducible assumption); (case X9 => with_reducible assumption); (case T9 => with_reducible assumption); (case A9 => (walk_at "mA")); (case p9 => (walk_at "mT"))); intro v9 h9 tk9 F9 N9 e9 p9; subst p9; (try dsimp only)
  (walk_at "mgo")
  rename_i hI F8 N8 l8
  exact ret _ _ _ F8.keep ⟨_, newObj_of N8 (.head _), _, _, rfl, hI⟩
end
theorem topOff_chain : True := by
  w_top off
  trivial
section
variable {prog : Program} {w : World} {loose : List Str} {mean : ExcName → Option Value} {mg mb : Str → Option Value}
inductive JLines (Tr : List RowD) (ad : TAd) (l : List Nat) (n : Nat) (m₁ : Str → Option Value) (news₁ : List (Addr × Obj)) : Prop
  | intro (done : List Nat) (rest : List Nat) (v : Value) (fa : Addr) (vs : List Value) (c : Nat) : (m₁ (Str.ofString "tree") = some (.ref ad.t)) → (m₁ (Str.ofString "node") = some v) → (m₁ (Str.ofString "found") = some (.ref fa)) → (news₁ = [(fa, listOf (vs : List Value).toArray c)]) → (IntsAre vs (natInts done)) → (UpV Tr v rest) → (l = done ++ rest) → (n = rest.length) → JLines Tr ad l n m₁ news₁
theorem lines_down_S (Tr : List RowD) (ad : TAd) (i : Nat) (l : List Nat) (tk : Tok) (hu : Up Tr i l) (hl : l.length ≤ 200) :
    Reads1 prog w loose mean mg mb 28 [.ref ad.t, .int (i : Nat) tk] 3 9 (fun h => TreeH h Tr ad) (fun h v h' => ∃ o, NewObj h v h' o ∧ ListOf l.reverse o) := by
  intro A s Q E hA T X hT ret
  refine' enterK [(Str.ofString "tree", .ref ad.t), (Str.ofString "node", .int (i : Nat) tk)] X T ?k6 ?k7 ?k8 ?k9 ?kB ?_ ?c2 ?c3 ?c4 ?c5
  (case k6 => k_dflt k_is); (case k7 => k_dflt k_is); (case k8 => with_reducible assumption); (case k9 => exact rfl); (case kB => exact rfl); (case c5 => decide); (case c2 => exact rfl); (case c3 => exact rfl); (case c4 => exact rfl)
  intro L h₁ F N hA'
  k_fold
  (walk_at "mgo")
  with_reducible rename Fr _ _ _ _ => F2
  with_reducible rename News _ _ _ _ => N2
  refine While_inv2 (J := JLines Tr ad l) (n₀ := l.length) F2 N2
    ⟨[], l, _, _, [], 0, rfl, rfl, rfl, rfl, .nil, .inr ⟨i, tk, rfl, hu⟩, rfl, rfl⟩ ?_ noE
  rintro n m₁ news₁ h₃ tk₃ F3 N3 ⟨done, rest, v, fa, vs, c, hm1, hm2, hm3, rfl, hI, hV, hl2, hn⟩
  have F4 := fr_look [(Str.ofString "tree", .ref ad.t), (Str.ofString "node", v), (Str.ofString "found", .ref fa)] F3 (by simp [hm1, hm2, hm3])
  have hvl := hI.length
  rw [natInts_length] at hvl
  have hll : l.length = done.length + rest.length := by rw [hl2, List.length_append]
  clear F3 F2 N2
  rcases hV with ⟨rfl, rfl⟩ | ⟨j, tj, rfl, hj⟩
  · (try dsimp only); (try k_fold)
    (walk_at "mgo")
    with_reducible rename Fr _ _ _ _ => F5
    with_reducible rename News _ _ _ _ => N5
    with_reducible rename IntsAre _ _ => hI5
    have hle : l = done := by rw [hl2, List.append_nil]
    exact ret _ _ _ F5.keep ⟨_, newObj_of N5 (.head _), _, _, rfl, by rw [hle]; simpa [natInts] using hI5⟩
  · (try dsimp only); (try k_fold)
    (walk_at "mgo")
    obtain ⟨R, hR, hR2⟩ : ∃ R, Tr[j]? = some R ∧ ∃ l', rest = j :: l' ∧ ∀ v, ParV v R.parent → UpV Tr v l' := by
      cases hj with
      | top h1 h2 => exact ⟨_, h1, [], rfl, fun v hv => by rw [h2] at hv; exact .inl ⟨hv, rfl⟩⟩
      | step h1 h2 h3 => exact ⟨_, h1, _, rfl, fun v hv => by rw [h2] at hv; obtain ⟨t, rfl⟩ := hv; exact .inr ⟨_, t, rfl, h3⟩⟩
    obtain ⟨l', rfl, hV'⟩ := hR2
    (refine' Reads1.use (parent_S Tr ad j R _ hR) ?F9 ?N9 ?X9 ?T9 ?A9 ?p9 ?_; (case F9 => with_reducible assumption); (case N9 => with_reducible assumption); (case X9 => with_reducible assumption); (case T9 => with_reducible assumption); (case A9 => (walk_at "mA")); (case p9 => (walk_at "mT"))); intro v9 h9 tk9 F9 N9 e9 p9; skip; (try dsimp only)
    (walk_at "mgo")
    with_reducible rename Fr _ _ _ _ => F5
    with_reducible rename News _ _ _ _ => N5
    refine ⟨_, _, _, _, l'.length, rfl, F5, N5, by rw [hn]; simp, ?_⟩
    exact ⟨done ++ [j], l', _, fa, vs ++ [.int j tj], c + 1, rfl, rfl, rfl, by simp, ints_snoc hI, hV' _ p9, by simp [hl2], rfl⟩
end
theorem topOff_chain2 : True := by
  w_top off
  trivial
section
variable {prog : Program} {w : World} {loose : List Str} {mean : ExcName → Option Value} {mg mb : Str → Option Value}
inductive JRoot (Tr : List RowD) (ad : TAd) (l : List Nat) (n : Nat) (m₁ : Str → Option Value) (news₁ : List (Addr × Obj)) : Prop
  | intro (j : Nat) (t : Tok) (rest : List Nat) : (m₁ (Str.ofString "self") = some (.ref ad.t)) → (m₁ (Str.ofString "node") = some (.int (j : Nat) t)) → (news₁ = []) → (Up Tr j rest) → (rest.getLastD 0 = l.getLastD 0) → (n = rest.length) → JRoot Tr ad l n m₁ news₁
theorem root_of_S (Tr : List RowD) (ad : TAd) (i : Nat) (l : List Nat) (tk : Tok) (hu : Up Tr i l) :
    Reads1 prog w loose mean mg mb 296 [.ref ad.t, .int (i : Nat) tk] 3 9 (fun h => TreeH h Tr ad) (fun h v h' => ∃ t, v = .int (l.getLastD 0 : Nat) t) := by
  intro A s Q E hA T X hT ret
  refine' enterK [(Str.ofString "self", .ref ad.t), (Str.ofString "node", .int (i : Nat) tk)] X T ?k6 ?k7 ?k8 ?k9 ?kB ?_ ?c2 ?c3 ?c4 ?c5
  (case k6 => k_dflt k_is); (case k7 => k_dflt k_is); (case k8 => with_reducible assumption); (case k9 => exact rfl); (case kB => exact rfl); (case c5 => decide); (case c2 => exact rfl); (case c3 => exact rfl); (case c4 => exact rfl)
  intro L h₁ F N hA'
  k_fold
  (walk_at "mgo")
  refine While_inv2 (J := JRoot Tr ad l) (n₀ := l.length) F N
    ⟨i, _, l, rfl, rfl, rfl, hu, rfl, rfl⟩ ?_ noE
  rintro n m₁ news₁ h₃ tk₃ F3 N3 ⟨j, t, rest, hm1, hm2, rfl, hj, hl2, hn⟩
  have F4 := fr_look [(Str.ofString "self", .ref ad.t), (Str.ofString "node", .int (j : Nat) t)] F3 (by simp [hm1, hm2])
  clear F3 F N
  (try dsimp only); (try k_fold)
  obtain ⟨R, hR, hR2⟩ : ∃ R, Tr[j]? = some R ∧ ((R.parent = none ∧ rest = [j]) ∨ ∃ j' l', R.parent = some j' ∧ rest = j :: l' ∧ Up Tr j' l') := by
    cases hj with
    | top h1 h2 => exact ⟨_, h1, .inl ⟨h2, rfl⟩⟩
    | step h1 h2 h3 => exact ⟨_, h1, .inr ⟨_, _, h2, rfl, h3⟩⟩
  obtain ⟨pl, hp, hRp⟩ := hT.row_of hR
  have hlt := (List.getElem?_eq_some_iff.mp hR).1
  (walk_at "mgo")
  (refine' Reads1.use (row_S Tr ad j pl _ hp hlt) ?F9 ?N9 ?X9 ?T9 ?A9 ?p9 ?_; (case F9 => with_reducible assumption); (case N9 => with_reducible assumption); (case X9 => with_reducible assumption); (case T9 => with_reducible assumption); (case A9 => (walk_at "mA")); (case p9 => (walk_at "mT"))); intro v9 h9 tk9 F9 N9 e9 p9; subst p9; (try dsimp only)
  have hp0 : ∀ v, ParV v R.parent → (R.parent = none ∧ v = .none) ∨ ∃ j' t', R.parent = some j' ∧ v = .int (j' : Nat) t' := fun v hv => by
    cases hq : R.parent with
    | none => rw [hq] at hv; exact .inl ⟨rfl, hv⟩
    | some j' => rw [hq] at hv; obtain ⟨t', rfl⟩ := hv; exact .inr ⟨_, _, rfl, rfl⟩
  refine' g_parent ?X ?R ?_
  case X => (walk_at "mX")
  case R => (walk_at "mR")
  intro v hv
  rcases hp0 v hv with ⟨hq, rfl⟩ | ⟨j', t', hq, rfl⟩
  · (walk_at "mgo")
    rcases hR2 with ⟨_, rfl⟩ | ⟨_, _, hq', _⟩
    · exact ret _ _ _ F9.keep ⟨_, by rw [← hl2]; rfl⟩
    · rw [hq] at hq'; cases hq'
  · (walk_at "mgo")
    with_reducible rename ParV _ _ => hv2
    rw [hq] at hv2
    obtain ⟨t2, rfl⟩ := hv2
    with_reducible rename Fr _ _ _ _ => F5
    with_reducible rename News _ _ _ _ => N5
    rcases hR2 with ⟨hq', rfl⟩ | ⟨_, l', hq', rfl, hu'⟩
    · rw [hq] at hq'; cases hq'
    · rw [hq] at hq'; cases hq'
      refine ⟨_, _, _, _, l'.length, rfl, F5, N5, by rw [hn]; simp, ?_⟩
      exact ⟨j', t2, l', rfl, rfl, rfl, hu', by rw [← hl2]; cases hu' <;> simp, rfl⟩
inductive JAbove (Tr : List RowD) (ad : TAd) (i : Nat) (tk : Tok) (l : List Nat) (n : Nat) (m₁ : Str → Option Value) (news₁ : List (Addr × Obj)) : Prop
  | intro (v : Value) (done rest : List Nat) : (m₁ (Str.ofString "self") = some (.ref ad.t)) → (m₁ (Str.ofString "node") = some (.int (i : Nat) tk)) → (m₁ (Str.ofString "other") = some v) → (news₁ = []) → (UpV Tr v rest) → (l = done ++ rest) → (i ∉ done) → (n = rest.length) → JAbove Tr ad i tk l n m₁ news₁
theorem is_above_S (Tr : List RowD) (ad : TAd) (i o : Nat) (l : List Nat) (tk tk2 : Tok) (hu : Up Tr o l) :
    Reads1 prog w loose mean mg mb 303 [.ref ad.t, .int (i : Nat) tk, .int (o : Nat) tk2] 3 9 (fun h => TreeH h Tr ad) (fun h v h' => v = .bool (decide (i ∈ l))) := by
  intro A s Q E hA T X hT ret
  refine' enterK [(Str.ofString "self", .ref ad.t), (Str.ofString "node", .int (i : Nat) tk), (Str.ofString "other", .int (o : Nat) tk2)] X T ?k6 ?k7 ?k8 ?k9 ?kB ?_ ?c2 ?c3 ?c4 ?c5
  (case k6 => k_dflt k_is); (case k7 => k_dflt k_is); (case k8 => with_reducible assumption); (case k9 => exact rfl); (case kB => exact rfl); (case c5 => decide); (case c2 => exact rfl); (case c3 => exact rfl); (case c4 => exact rfl)
  intro L h₁ F N hA'
  k_fold
  (walk_at "mgo")
  refine While_inv2 (J := JAbove Tr ad i tk l) (n₀ := l.length) F N
    ⟨_, [], l, rfl, rfl, rfl, rfl, .inr ⟨o, _, rfl, hu⟩, rfl, by simp, rfl⟩ ?_ noE
  rintro n m₁ news₁ h₃ tk₃ F3 N3 ⟨v, done, rest, hm1, hm2, hm3, rfl, hV, hl2, hno, hn⟩
  have F4 := fr_look [(Str.ofString "self", .ref ad.t), (Str.ofString "node", .int (i : Nat) tk), (Str.ofString "other", v)] F3 (by simp [hm1, hm2, hm3])
  clear F3 F N
  rcases hV with ⟨rfl, rfl⟩ | ⟨j, tj, rfl, hj⟩
  · (try dsimp only); (try k_fold)
    (walk_at "mgo")
    refine ret _ _ _ F4.keep ?_
    rw [hl2, List.append_nil, decide_eq_false hno]
  · (try dsimp only); (try k_fold)
    (walk_at "mgo")
    · rename_i hji
      have hji' : j = i := by omega
      refine g7 _ _ (ret _ _ _ F4.keep ?_)
      have hm : i ∈ l := by rw [hl2, ← hji']; cases hj <;> simp
      rw [decide_eq_true hm]
    · rename_i hji
      have hji' : j ≠ i := fun e => hji (by rw [e])
      obtain ⟨R, hR, hR2⟩ : ∃ R, Tr[j]? = some R ∧ ∃ l', rest = j :: l' ∧ ∀ v, ParV v R.parent → UpV Tr v l' := by
        cases hj with
        | top h1 h2 => exact ⟨_, h1, [], rfl, fun v hv => by rw [h2] at hv; exact .inl ⟨hv, rfl⟩⟩
        | step h1 h2 h3 => exact ⟨_, h1, _, rfl, fun v hv => by rw [h2] at hv; obtain ⟨t, rfl⟩ := hv; exact .inr ⟨_, t, rfl, h3⟩⟩
      obtain ⟨l', rfl, hV'⟩ := hR2
      obtain ⟨pl, hp, hRp⟩ := hT.row_of hR
      have hlt := (List.getElem?_eq_some_iff.mp hR).1
      (refine' Reads1.use (row_S Tr ad j pl _ hp hlt) ?F9 ?N9 ?X9 ?T9 ?A9 ?p9 ?_; (case F9 => with_reducible assumption); (case N9 => with_reducible assumption); (case X9 => with_reducible assumption); (case T9 => with_reducible assumption); (case A9 => (walk_at "mA")); (case p9 => (walk_at "mT"))); intro v9 h9 tk9 F9 N9 e9 p9; subst p9; (try dsimp only)
      (walk_at "mgo")
      with_reducible rename Fr _ _ _ _ => F5
      with_reducible rename News _ _ _ _ => N5
      with_reducible rename ParV _ _ => hv2
      refine ⟨_, _, _, _, l'.length, rfl, F5, N5, by rw [hn]; simp, ?_⟩
      exact ⟨_, done ++ [j], l', rfl, rfl, rfl, rfl, hV' _ hv2, by simp [hl2], by simp [hno, Ne.symm hji'], rfl⟩
end
theorem topOff_beneath : True := by
  w_top off
  trivial
section
variable {prog : Program} {w : World} {loose : List Str} {mean : ExcName → Option Value} {mg mb : Str → Option Value}
inductive JBen (Tr : List RowD) (ad : TAd) (k : Fo) (n : Nat) (m₁ : Str → Option Value) (news₁ : List (Addr × Obj)) : Prop
  | intro (done : List Nat) (f : Fo) (roots : List Nat) (fa la : Addr) (vd vl : List Value) (cd cl : Nat) : (m₁ (Str.ofString "tree") = some (.ref ad.t)) → (m₁ (Str.ofString "found") = some (.ref fa)) → (m₁ (Str.ofString "left") = some (.ref la)) → (news₁ = [(la, listOf vl.toArray cl), (fa, listOf vd.toArray cd)]) → (@LT.lt Nat _ fa la) → (IntsAre vd (natInts done)) → (IntsAre vl (natInts roots.reverse)) → (IsF Tr f roots) → (k.plain = done ++ f.plain) → (n = f.size) → JBen Tr ad k n m₁ news₁
theorem beneath_S (Tr : List RowD) (ad : TAd) (i : Nat) (R : RowD) (k : Fo) (tk : Tok) (hi : Tr[i]? = some R) (hk : IsF Tr k R.kids) (hz : k.size ≤ 1000) :
    Reads1 prog w loose mean mg mb 61 [.ref ad.t, .int (i : Nat) tk] 3 9 (fun h => TreeH h Tr ad) (fun h v h' => ∃ o, NewObj h v h' o ∧ ListOf k.plain o) := by
  intro A s Q E hA T X hT ret
  refine' enterK [(Str.ofString "tree", .ref ad.t), (Str.ofString "node", .int (i : Nat) tk)] X T ?k6 ?k7 ?k8 ?k9 ?kB ?_ ?c2 ?c3 ?c4 ?c5
  (case k6 => k_dflt k_is); (case k7 => k_dflt k_is); (case k8 => with_reducible assumption); (case k9 => exact rfl); (case kB => exact rfl); (case c5 => decide); (case c2 => exact rfl); (case c3 => exact rfl); (case c4 => exact rfl)
  intro L h₁ F N hA'
  k_fold
  (walk_at "mgo")
  (refine' Reads1.useNew (children_S Tr ad i R _ hi) ?F9 ?N9 ?X9 ?T9 ?A9 ?p9 ?_; (case F9 => with_reducible assumption); (case N9 => with_reducible assumption); (case X9 => with_reducible assumption); (case T9 => with_reducible assumption); (case A9 => (walk_at "mA")); (case p9 => (walk_at "mT"))); intro a9 o9 h9 tk9 F9 N9 ne9 e9 p9; obtain ⟨vs, c, rfl, hI⟩ := p9; (try dsimp only)
  have hvl := hI.length
  have hkl := hk.length_le
  rw [natInts_length] at hvl
  (walk_at "mgo")
  with_reducible rename Fr _ _ _ _ => F2
  with_reducible rename News _ _ _ _ => N2
  with_reducible rename IntsAre _ _ => hI2
  rename_i hlt1 _
  refine While_inv2 (J := JBen Tr ad k) (n₀ := k.size) F2 (cb_drop N2 (news := [(_, listOf _ 0), (_, listOf _ 0)]) (fun p hp => by rcases List.mem_cons.mp hp with rfl | hp; exact .head _; rcases List.mem_cons.mp hp with rfl | hp; exact .tail _ (.tail _ (.head _)); cases hp))
    ⟨[], k, R.kids, _, _, [], _, 0, 0, rfl, rfl, rfl, rfl, by omega, .nil, by simpa [natInts] using hI2, hk, rfl, rfl⟩ ?_ noE
  rintro n m₁ news₁ h₃ tk₃ F3 N3 ⟨done, f, roots, fa, la, vd, vl, cd, cl, hm1, hm2, hm3, rfl, hlt, hId, hIl, hf, hpl, hn⟩
  have F4 := fr_look [(Str.ofString "tree", .ref ad.t), (Str.ofString "found", .ref fa), (Str.ofString "left", .ref la)] F3 (by simp [hm1, hm2, hm3])
  have hdl := hId.length
  have hll := hIl.length
  have hfl := hf.length_le
  have hsz := congrArg List.length hpl
  rw [List.length_append, Fo.plain_size, Fo.plain_size] at hsz
  rw [natInts_length] at hdl hll
  rw [List.length_reverse] at hll
  clear F3 F2 N2
  (try dsimp only); (try k_fold)
  cases f with
  | nil =>
    cases hf
    cases hIl
    (walk_at "mgo")
    with_reducible rename Fr _ _ _ _ => F5
    with_reducible rename News _ _ _ _ => N5
    exact ret _ _ _ F5.keep ⟨_, newObj_of N5 (.tail _ (.tail _ (.head _))), _, _, rfl, by rw [hpl]; simpa [Fo.plain] using hId⟩
  | cons x kx r =>
    obtain ⟨Rx, roots', rfl, hx, hkx, hr⟩ := hf
    rw [List.reverse_cons] at hIl
    obtain ⟨vl', tx, rfl, hIl'⟩ := ints_snoc_inv hIl
    rw [List.length_append] at hll
    have hne : decide (natInts (roots'.reverse ++ [x]) = []) = false := by simp [natInts]
    (walk_at "mgo")
    (refine' Reads1.useNew (children_S Tr ad x Rx _ hx) ?F9 ?N9 ?X9 ?T9 ?A9 ?p9 ?_; (case F9 => with_reducible assumption); (case N9 => with_reducible assumption); (case X9 => with_reducible assumption); (case T9 => with_reducible assumption); (case A9 => (walk_at "mA")); (case p9 => (walk_at "mT"))); intro a9 o9 h9 tk9 F9 N9 ne9 e9 p9; obtain ⟨vs, c, rfl, hI⟩ := p9; (try dsimp only)
    have hkx2 := hkx.length_le
    have hvl := hI.length
    rw [natInts_length] at hvl
    simp only [Fo.size, List.length_cons] at hsz hfl
    (walk_at "mgo")
    with_reducible rename Fr _ _ _ _ => F5
    with_reducible rename News _ _ _ _ => N5
    with_reducible rename IntsAre _ _ => hI5
    rename_i l5 _ _
    simp only [List.push_toArray] at N5
    refine ⟨_, _, _, _, (kx.app r).size, rfl, F5, cb_drop N5 (news := [(_, _), (_, _)]) (fun p hp => by rcases List.mem_cons.mp hp with rfl | hp; exact .head _; rcases List.mem_cons.mp hp with rfl | hp; exact .tail _ (.tail _ (.tail _ (.tail _ (.tail _ (.head _))))); cases hp), by rw [hn, Fo.size_app]; simp [Fo.size], ?_⟩
    exact ⟨done ++ [x], kx.app r, Rx.kids ++ roots', _, _, vd ++ [.int x tx], _, _, _, rfl, rfl, rfl, rfl, by omega, ints_snoc hId, by simpa [natInts] using hI5, hkx.app hr, by rw [hpl, Fo.plain_app]; simp [Fo.plain], rfl⟩
end
theorem topOff_walk : True := by
  w_top off
  trivial
section
variable {prog : Program} {w : World} {loose : List Str} {mean : ExcName → Option Value} {mg mb : Str → Option Value}
inductive JWalk (Tr : List RowD) (ad : TAd) (i : Nat) (k : Fo) (x0 : List Nat) (rest : List Nat) (m₁ : Str → Option Value) (news₁ : List (Addr × Obj)) : Prop
  | intro (acc : List Nat) (fr : Fo) (fa : Addr) (vs : List Value) (c : Nat) : (m₁ (Str.ofString "tree") = some (.ref ad.t)) → (m₁ (Str.ofString "found") = some (.ref fa)) → (news₁ = [(fa, listOf vs.toArray c)]) → (IntsAre vs (natInts acc)) → (IsF Tr fr rest) → (walk1Of Tr i k = acc ++ fr.walk Tr) → (fr.depth ≤ k.depth) → JWalk Tr ad i k x0 rest m₁ news₁
theorem law_walk_S (Tr : List RowD) (ad : TAd) : ∀ (n : Nat) (i : Nat) (R : RowD) (k : Fo) (tk : Tok) (hi : Tr[i]? = some R) (hk : IsF Tr k R.kids) (hn : k.depth ≤ n) (hw : (walk1Of Tr i k).length ≤ 1000),
    Reads1 prog w loose mean mg mb 380 [.ref ad.t, .int (i : Nat) tk] (3 + n) (9 + 3 * n) (fun h => TreeH h Tr ad) (fun h v h' => ∃ o, NewObj h v h' o ∧ ListOf (walk1Of Tr i k) o) := by
  intro n
  induction n using Nat.strongRecOn with
  | ind n ih =>
    intro i R k tk hi hk hn hw A s Q E hA T X hT ret
    have hlen : (walk1Of Tr i k).length = 1 + R.nss.length + R.atts.length + (k.walk Tr).length := by
      simp [walk1Of, nssOf_eq hi, attsOf_eq hi]; omega
    have hlens := hT.lens i R hi
    refine' enterK [(Str.ofString "tree", .ref ad.t), (Str.ofString "node", .int (i : Nat) tk)] X T ?k6 ?k7 (d := 2 + n) (u := 6 + 3 * n) ?k8 ?k9 ?kB ?_ ?c2 ?c3 ?c4 ?c5
    (case k8 => exact hA.le (by omega) (by omega))
    (case k6 => k_dflt k_is); (case k7 => k_dflt k_is); (case k9 => exact rfl); (case kB => exact rfl); (case c5 => decide); (case c2 => exact rfl); (case c3 => exact rfl); (case c4 => exact rfl)
    intro L h₁ F N hA'
    k_fold
    (walk_at "mgo")
    (refine' Reads1.useNew (namespaces_S Tr ad i R _ hi) ?F9 ?N9 ?X9 ?T9 ?A9 ?p9 ?_; (case F9 => with_reducible assumption); (case N9 => with_reducible assumption); (case X9 => with_reducible assumption); (case T9 => with_reducible assumption); (case A9 => (walk_at "mA")); (case p9 => (walk_at "mT"))); intro a9 o9 h9 tk9 F9 N9 ne9 e9 p9; obtain ⟨vs1, c1, rfl, hI1⟩ := p9; (try dsimp only)
    have hI0 : IntsAre [Value.int (i : Nat) tk] (natInts [i]) := .cons _ _ .nil
    have hs0 : [Value.int (i : Nat) tk].toArray = #[Value.int (i : Nat) tk] := rfl
    (walk_at "mgo")
    with_reducible rename IntsAre _ _ => hI8
    (refine' Reads1.useNew (attributes_S Tr ad i R _ hi) ?F9 ?N9 ?X9 ?T9 ?A9 ?p9 ?_; (case F9 => with_reducible assumption); (case N9 => with_reducible assumption); (case X9 => with_reducible assumption); (case T9 => with_reducible assumption); (case A9 => (walk_at "mA")); (case p9 => (walk_at "mT"))); intro a9 o9 h9 tk9 F9 N9 ne9 e9 p9; obtain ⟨vs2, c2, rfl, hI2⟩ := p9; (try dsimp only)
    (walk_at "mgo")
    with_reducible rename IntsAre _ _ => hI7
    (refine' Reads1.useNew (children_S Tr ad i R _ hi) ?F9 ?N9 ?X9 ?T9 ?A9 ?p9 ?_; (case F9 => with_reducible assumption); (case N9 => with_reducible assumption); (case X9 => with_reducible assumption); (case T9 => with_reducible assumption); (case A9 => (walk_at "mA")); (case p9 => (walk_at "mT"))); intro a9 o9 h9 tk9 F9 N9 ne9 e9 p9; obtain ⟨vs3, c3, rfl, hI3⟩ := p9; (try dsimp only)
    (walk_at "mgo")
    with_reducible rename Fr _ _ _ _ => F2
    with_reducible rename News _ _ _ _ => N2
    refine loop_list (xs := R.kids) (news := [(_, listOf _ 0)]) (JWalk Tr ad i k)
      hA'.hd (N2 _ (.head _)).1 hI3 (N2 _ (.head _)).2.1 F2 N2 (fun p hp => ?hsub) ⟨i :: R.nss ++ R.atts, k, _, _, 0, rfl, rfl, rfl, by simpa [natInts] using hI7, hk, by simp [walk1Of, nssOf_eq hi, attsOf_eq hi], Nat.le_refl _⟩ ?_ ?_
    case hsub =>
      rcases List.mem_cons.mp hp with rfl | hp
      · exact .tail _ (.head _)
      · cases hp
    · rintro dn y rest t m₁ news₁ h₃ tk₃ own hsp ⟨acc, fr, fa, vs, c, hm1, hm2, rfl, hIa, hf, hwk, hdp⟩ hown F3 N3
      have F4 := fr_look [(Str.ofString "child", .int (y : Nat) t), (Str.ofString "tree", .ref ad.t), (Str.ofString "found", .ref fa)] F3 (List.forall_mem_cons.mpr ⟨by first | rfl | assumption, List.forall_mem_cons.mpr ⟨by first | rfl | assumption, List.forall_mem_cons.mpr ⟨by first | rfl | assumption, List.forall_mem_nil _⟩⟩⟩)
      clear F3 F2 N2
      cases fr with
      | nil => cases hf
      | cons y' ky r =>
        obtain ⟨Ry, rest', he, hy, hky, hr⟩ := hf
        cases he
        have hwl := congrArg List.length hwk
        have hw1 : (Fo.cons y ky r).walk Tr = walk1Of Tr y ky ++ r.walk Tr := rfl
        rw [hw1, List.length_append, List.length_append] at hwl
        have hdy : ky.depth < n := by simp [Fo.depth] at hdp; omega
        have hdr : r.depth ≤ k.depth := by simp [Fo.depth] at hdp; omega
        (try dsimp only); (try k_fold)
        (walk_at "mgo")
        (refine' Reads1.useNew (ih ky.depth hdy y Ry ky _ hy hky (Nat.le_refl _) (by omega)) ?F9 ?N9 ?X9 ?T9 ?A9 ?p9 ?_; (case F9 => with_reducible assumption); (case N9 => with_reducible assumption); (case X9 => with_reducible assumption); (case T9 => with_reducible assumption); (case A9 => (walk_at "mA")); (case p9 => (walk_at "mT"))); intro a9 o9 h9 tk9 F9 N9 ne9 e9 p9; obtain ⟨vs9, c9, rfl, hI9⟩ := p9; (try dsimp only)
        (walk_at "mgo")
        with_reducible rename Fr _ _ _ _ => F5
        with_reducible rename News _ _ _ _ => N5
        with_reducible rename IntsAre _ _ => hI5
        exact ⟨_, _, _, _, [(_, _)], rfl, F5, N5, (fun p hp => by simp [hp]), (fun p hp => by rcases List.mem_cons.mp hp with rfl | hp; exact .head _; cases hp), (by simp), acc ++ walk1Of Tr y ky, r, _, _, _, rfl, rfl, rfl, by simpa [natInts] using hI5, hr, by rw [hwk, hw1]; simp, hdr⟩
    · rintro m₁ news₁ h₃ tk₃ ⟨acc, fr, fa, vs, c, hm1, hm2, rfl, hIa, hf, hwk, hdp⟩ F3 N3
      have F4 := fr_look [(Str.ofString "tree", .ref ad.t), (Str.ofString "found", .ref fa)] F3 (List.forall_mem_cons.mpr ⟨by first | rfl | assumption, List.forall_mem_cons.mpr ⟨by first | rfl | assumption, List.forall_mem_nil _⟩⟩)
      clear F3 F2 N2
      cases fr with
      | cons y' ky r => obtain ⟨Ry, rest', he, hy, hky, hr⟩ := hf; cases he
      | nil =>
        (try dsimp only); (try k_fold)
        (walk_at "mgo")
        exact ret _ _ _ F4.keep ⟨_, newObj_of N3 (.head _), _, _, rfl, by rw [hwk]; simpa [Fo.walk] using hIa⟩
end
theorem topOff_texts : True := by
  w_top off
  trivial
section
variable {prog : Program} {w : World} {loose : List Str} {mean : ExcName → Option Value} {mg mb : Str → Option Value}
theorem string_value_S (Tr : List RowD) (ad : TAd) (i : Nat) (R : RowD) (k : Fo) (tk : Tok) (hi : Tr[i]? = some R) (hk : IsF Tr k R.kids) (hz : k.size ≤ 1000) (hv : ValsOk Tr) :
    Reads1 prog w loose mean mg mb 66 [.ref ad.t, .int (i : Nat) tk] 4 12 (fun h => TreeH h Tr ad) (fun h v h' => ∃ t, v = .str (strVal Tr R k) t) := by
  intro A s Q E hA T X hT ret
  refine' enterC [(Str.ofString "tree", .ref ad.t), (Str.ofString "node", .int (i : Nat) tk)] X T ?k6 ?k7 ?k8 ?k9 ?kB ?kD ?_ ?c2 ?c3 ?c4
  (case k6 => k_dflt k_is); (case k7 => k_dflt k_is); (case k8 => with_reducible assumption); (case k9 => exact rfl); (case kB => exact rfl); (case kD => decide +kernel); (case c2 => exact rfl); (case c3 => exact rfl); (case c4 => exact rfl)
  intro L h₁ tk0 cells' F0 N Y' hA'
  have hY := CellsAre.one Y'; obtain ⟨oc1, hE', dc1⟩ := hY; subst hE'; clear Y'
  replace dc1 : oc1.data = .cell (some (.ref ad.t)) := dc1
  have F := fr_look [(Str.ofString "node", .int (i : Nat) tk)] F0 (List.forall_mem_cons.mpr ⟨by first | rfl | assumption, List.forall_mem_nil _⟩)
  clear F0
  (try dsimp only); (try k_fold)
  (walk_at "mgo")
  (refine' Reads1.use (kind_S Tr ad i R _ hi) ?F9 ?N9 ?X9 ?T9 ?A9 ?p9 ?_; (case F9 => with_reducible assumption); (case N9 => with_reducible assumption); (case X9 => with_reducible assumption); (case T9 => with_reducible assumption); (case A9 => (walk_at "mA")); (case p9 => (walk_at "mT"))); intro v9 h9 tk9 F9 N9 e9 p9; obtain ⟨tk9, rfl⟩ := p9; (try dsimp only)
  (walk_at "mgo")
  · refine LCt.ListComp_T (F₀ := by with_reducible assumption) (by with_unfolding_all rfl) (by decide) (by rfl) (by decide) (by rfl) ?_
    (try dsimp only)
    (walk_at "mgo")
    (refine' Reads1.useNew (beneath_S Tr ad i R k _ hi hk hz) ?F9 ?N9 ?X9 ?T9 ?A9 ?p9 ?_; (case F9 => with_reducible assumption); (case N9 => with_reducible assumption); (case X9 => with_reducible assumption); (case T9 => with_reducible assumption); (case A9 => (walk_at "mA")); (case p9 => (walk_at "mT"))); intro a9 o9 h9 tk9 F9 N9 ne9 e9 p9; obtain ⟨vs, c, rfl, hI⟩ := p9; (try dsimp only)
    (walk_at "mgo")
    with_reducible rename (List.any _ _ = true) => hpar
    have hlen : k.plain.length ≤ 1000 := by rw [Fo.plain_size]; exact hz
    refine srcT_ints (E := fun _ _ => False) (news := [(a9, listOf vs.toArray c), (L + 1, oc1)]) (fun done _ ys news => StrsAre ys (txtsL Tr done) ∧ news = [(a9, listOf vs.toArray c), (L + 1, oc1)]) hA'.hd F9 N9 (fun p hp => by simp at hp; rcases hp with rfl | rfl <;> simp) (.head _) hI (by omega) ⟨.nil, rfl⟩ ?_ ?_
    · rintro done y rest ys news t I oI C oC D m₂ h tk E' hx ⟨hS, rfl⟩ hC hm F8 N8 off ne
      obtain ⟨Ry, hy⟩ := hk.mem y (by rw [hx]; simp)
      (try dsimp only)
      (walk_at "mgo")
      (refine' Reads1.use (kind_S Tr ad y Ry _ hy) ?F9 ?N9 ?X9 ?T9 ?A9 ?p9 ?_; (case F9 => with_reducible assumption); (case N9 => with_reducible assumption); (case X9 => with_reducible assumption); (case T9 => with_reducible assumption); (case A9 => (walk_at "mA")); (case p9 => (walk_at "mT"))); intro v9 h9 tk9 F9 N9 e9 p9; obtain ⟨tk9, rfl⟩ := p9; (try dsimp only)
      (walk_at "mgo")
      · rename_i hk1
        have ht : txt1 Tr y = some Ry.value := by simp [txt1, hy, eq_of_beq hk1]
        (refine' Reads1.use (value_S Tr ad y Ry _ hy) ?F9 ?N9 ?X9 ?T9 ?A9 ?p9 ?_; (case F9 => with_reducible assumption); (case N9 => with_reducible assumption); (case X9 => with_reducible assumption); (case T9 => with_reducible assumption); (case A9 => (walk_at "mA")); (case p9 => (walk_at "mT"))); intro v9 h9 tk9 F9 N9 e9 p9; obtain ⟨tk9, rfl⟩ := p9; (try dsimp only)
        refine LCg.CompEnd.intro F9 N9 [(a9, listOf vs.toArray c), (L + 1, oc1)] (fun p hp => hp) off (.inr ⟨_, .head _, rfl, _, rfl⟩) ⟨?_, rfl⟩
        rw [txtsL_snoc, ht]
        exact strs_snoc hS
      · rename_i hk1
        have ht : txt1 Tr y = none := by
          have : Ry.kind ≠ Str.ofString "text" := by simpa using hk1
          simp [txt1, hy, this]
        refine LCg.CompEnd.intro F9 N9 [(a9, listOf vs.toArray c), (L + 1, oc1)] (fun p hp => hp) off (.inr ⟨_, .head _, rfl, _, rfl⟩) ⟨?_, rfl⟩
        rw [txtsL_snoc, ht]
        simpa using hS
    · rintro g ys news ⟨hS, rfl⟩ 
      have hw := txtsL_small hv k.plain
      (walk_at "mgo")
      with_reducible rename Fr _ _ _ _ => F5
      with_reducible rename News _ _ _ _ => N5
      refine join_listW (PySem.IsL.isList (n := ys.length) (N5 _ (.head _)).1) hS (by decide) (by omega) fun t' k' => ?_
      repeat walk_at "gq"
      refine ret _ _ _ F5.keep ⟨t', ?_⟩
      have hp' : isPar R.kind = true := hpar
      simp only [strVal, hp', if_true]
  · (refine' Reads1.use (value_S Tr ad i R _ hi) ?F9 ?N9 ?X9 ?T9 ?A9 ?p9 ?_; (case F9 => with_reducible assumption); (case N9 => with_reducible assumption); (case X9 => with_reducible assumption); (case T9 => with_reducible assumption); (case A9 => (walk_at "mA")); (case p9 => (walk_at "mT"))); intro v9 h9 tk9 F9 N9 e9 p9; obtain ⟨tk9, rfl⟩ := p9; (try dsimp only)
    with_reducible rename (List.any _ _ = false) => hpar
    repeat walk_at "gq"
    refine ret _ _ _ F9.keep ⟨tk9, ?_⟩
    have hp' : isPar R.kind = false := hpar
    simp [strVal, hp']
theorem law_texts_S (Tr : List RowD) (ad : TAd) (hv : ValsOk Tr) : ∀ (n : Nat) (i : Nat) (R : RowD) (k : Fo) (tk : Tok) (hi : Tr[i]? = some R) (hk : IsF Tr k R.kids) (hn : k.depth ≤ n) (hz : k.size ≤ 1000),
    Reads1 prog w loose mean mg mb 392 [.ref ad.t, .int (i : Nat) tk] (3 + n) (9 + 3 * n) (fun h => TreeH h Tr ad) (fun h v h' => ∃ t, v = .str (lawText Tr R k) t) := by
  intro n
  induction n using Nat.strongRecOn with
  | ind n ih =>
    intro i R k tk hi hk hn hz A s Q E hA T X hT ret
    have hlens := hT.lens i R hi
    refine' enterC [(Str.ofString "tree", .ref ad.t), (Str.ofString "node", .int (i : Nat) tk)] X T ?k6 ?k7 (d := 2 + n) (u := 6 + 3 * n) ?k8 ?k9 ?kB ?kD ?_ ?c2 ?c3 ?c4
    (case k6 => k_dflt k_is); (case k7 => k_dflt k_is); (case k8 => exact hA.le (by omega) (by omega)); (case k9 => exact rfl); (case kB => exact rfl); (case kD => decide +kernel); (case c2 => exact rfl); (case c3 => exact rfl); (case c4 => exact rfl)
    intro L h₁ tk0 cells' F0 N Y' hA'
    have hY := CellsAre.one Y'; obtain ⟨oc1, hE', dc1⟩ := hY; subst hE'; clear Y'
    replace dc1 : oc1.data = .cell (some (.ref ad.t)) := dc1
    have F := fr_look [(Str.ofString "node", .int (i : Nat) tk)] F0 (List.forall_mem_cons.mpr ⟨by first | rfl | assumption, List.forall_mem_nil _⟩)
    clear F0
    (try dsimp only); (try k_fold)
    (walk_at "mgo")
    (refine' Reads1.use (kind_S Tr ad i R _ hi) ?F9 ?N9 ?X9 ?T9 ?A9 ?p9 ?_; (case F9 => with_reducible assumption); (case N9 => with_reducible assumption); (case X9 => with_reducible assumption); (case T9 => with_reducible assumption); (case A9 => (walk_at "mA")); (case p9 => (walk_at "mT"))); intro v9 h9 tk9 F9 N9 e9 p9; obtain ⟨tk9, rfl⟩ := p9; (try dsimp only)
    (walk_at "mgo")
    · rename_i hk1
      (refine' Reads1.use (value_S Tr ad i R _ hi) ?F9 ?N9 ?X9 ?T9 ?A9 ?p9 ?_; (case F9 => with_reducible assumption); (case N9 => with_reducible assumption); (case X9 => with_reducible assumption); (case T9 => with_reducible assumption); (case A9 => (walk_at "mA")); (case p9 => (walk_at "mT"))); intro v9 h9 tk9 F9 N9 e9 p9; obtain ⟨tk9, rfl⟩ := p9; (try dsimp only)
      repeat walk_at "gq"
      refine ret _ _ _ F9.keep ⟨tk9, ?_⟩
      have hk2 : R.kind = Str.ofString "text" := eq_of_beq hk1
      simp [lawText, hk2]
    · rename_i hk1
      have hk2 : R.kind ≠ Str.ofString "text" := by simpa using hk1
      refine LCg.ListComp_U (F₀ := by with_reducible assumption) (by with_unfolding_all rfl) (by decide) (by rfl) (by decide) (by rfl) ?_
      (try dsimp only)
      (walk_at "mgo")
      (refine' Reads1.useNew (children_S Tr ad i R _ hi) ?F9 ?N9 ?X9 ?T9 ?A9 ?p9 ?_; (case F9 => with_reducible assumption); (case N9 => with_reducible assumption); (case X9 => with_reducible assumption); (case T9 => with_reducible assumption); (case A9 => (walk_at "mA")); (case p9 => (walk_at "mT"))); intro a9 o9 h9 tk9 F9 N9 ne9 e9 p9; obtain ⟨vs, c, rfl, hI⟩ := p9; (try dsimp only)
      refine src_ints (E := fun _ _ => False) (news := [(a9, listOf vs.toArray c), (L + 1, oc1)]) (fun done rest ys news => (∃ ts fr, StrsAre ys ts ∧ IsF Tr fr rest ∧ k.ltxt Tr = ts ++ fr.ltxt Tr ∧ fr.depth ≤ k.depth ∧ fr.size ≤ k.size) ∧ news = [(a9, listOf vs.toArray c), (L + 1, oc1)]) hA'.hd F9 N9 (fun p hp => hp) (.head _) hI (by omega) ⟨⟨[], k, .nil, hk, rfl, Nat.le_refl _, Nat.le_refl _⟩, rfl⟩ ?_ ?_
      · rintro done y rest ys news t I oI C oC D m₂ h tk E' hx ⟨⟨ts, fr, hS, hf, hts, hdp, hsz⟩, rfl⟩ hC hm F8 N8 off ne
        cases fr with
        | nil => cases hf
        | cons y' ky r =>
          obtain ⟨Ry, rest', he, hy, hky, hr⟩ := hf
          cases he
          have hdy : ky.depth < n := by simp [Fo.depth] at hdp; omega
          have hdr : r.depth ≤ k.depth := by simp [Fo.depth] at hdp; omega
          simp only [Fo.size] at hsz
          rw [ltxt_cons hy] at hts
          (try dsimp only)
          (walk_at "mgo")
          (refine' Reads1.use (ih ky.depth hdy y Ry ky _ hy hky (Nat.le_refl _) (by omega)) ?F9 ?N9 ?X9 ?T9 ?A9 ?p9 ?_; (case F9 => with_reducible assumption); (case N9 => with_reducible assumption); (case X9 => with_reducible assumption); (case T9 => with_reducible assumption); (case A9 => (walk_at "mA")); (case p9 => (walk_at "mT"))); intro v9 h9 tk9 F9 N9 e9 p9; obtain ⟨tk9, rfl⟩ := p9; (try dsimp only)
          exact LCg.CompEnd.intro F9 N9 [(a9, listOf vs.toArray c), (L + 1, oc1)] (fun p hp => hp) off (.inr ⟨_, .head _, rfl, _, rfl⟩) ⟨⟨ts ++ [lawText Tr Ry ky], r, strs_snoc hS, hr, by rw [hts]; simp, hdr, by omega⟩, rfl⟩
      · rintro g ys news ⟨⟨ts, fr, hS, hf, hts, hdp, hsz⟩, rfl⟩
        cases fr with
        | cons y' ky r => obtain ⟨Ry, rest', he, hy, hky, hr⟩ := hf; cases he
        | nil =>
          have hw := ltxt_small hv k
          have hts' : k.ltxt Tr = ts := by rw [hts]; simp [Fo.ltxt]
          rw [hts'] at hw
          (walk_at "mgo")
          with_reducible rename Fr _ _ _ _ => F5
          with_reducible rename News _ _ _ _ => N5
          refine join_listW (PySem.IsL.isList (n := ys.length) (N5 _ (.head _)).1) hS (by decide) (by omega) fun t' k' => ?_
          repeat walk_at "gq"
          refine ret _ _ _ F5.keep ⟨t', ?_⟩
          simp only [lawText, hk2, if_false, hts']
end
theorem topOff_place : True := by
  w_top off
  trivial
section
variable {prog : Program} {w : World} {loose : List Str} {mean : ExcName → Option Value} {mg mb : Str → Option Value}
local macro_rules | `(tactic| walk_at "call builtin:list.index") => `(tactic| ((with_reducible show wpAny _ _ (call (Value.builtin _) [Value.ref _, Value.int _ _]) _ _ _); k_dflt (refine' index_ints (by exact (News.get (by walk_at "q") (.head _))) (by walk_at "q") (by walk_at "q") (by omega) ?_; k_whole; intro _)))
theorem place_among_S (Tr : List RowD) (ad : TAd) (p i : Nat) (Rp R : RowD) (tp tk : Tok) (hip : Tr[p]? = some Rp) (hi : Tr[i]? = some R) (hm : i ∈ sibs R Rp) :
    Reads1 prog w loose mean mg mb 35 [.ref ad.t, .int (p : Nat) tp, .int (i : Nat) tk] 3 9 (fun h => TreeH h Tr ad) (fun h v h' => ∃ o, NewObj h v h' o ∧ TupOf (amongOf Tr p i) o) := by
  intro A s Q E hA T X hT ret
  have hz := hT.lens p Rp hip; obtain ⟨hz1, hz2, hz3⟩ := hz
  refine' enterK [(Str.ofString "tree", .ref ad.t), (Str.ofString "parent", .int (p : Nat) tp), (Str.ofString "node", .int (i : Nat) tk)] X T ?k6 ?k7 ?k8 ?k9 ?kB ?_ ?c2 ?c3 ?c4 ?c5
  (case k6 => k_dflt k_is); (case k7 => k_dflt k_is); (case k8 => with_reducible assumption); (case k9 => exact rfl); (case kB => exact rfl); (case c5 => decide); (case c2 => exact rfl); (case c3 => exact rfl); (case c4 => exact rfl)
  intro L h₁ F N hA'
  k_fold
  have hq : amongOf Tr p i = [sortN R, ((sibs R Rp).idxOf i : Nat)] := by simp [amongOf, rowOf_eq hip, rowOf_eq hi]
  (walk_at "mgo")
  (refine' Reads1.use (kind_S Tr ad i R _ hi) ?F9 ?N9 ?X9 ?T9 ?A9 ?p9 ?_; (case F9 => with_reducible assumption); (case N9 => with_reducible assumption); (case X9 => with_reducible assumption); (case T9 => with_reducible assumption); (case A9 => (walk_at "mA")); (case p9 => (walk_at "mT"))); intro v9 h9 tk9 F9 N9 e9 p9; obtain ⟨tk9, rfl⟩ := p9; (try dsimp only)
  (walk_at "mgo")
  · rename_i hk1
    have hk : R.kind = Str.ofString "namespace" := eq_of_beq hk1
    have hs : sibs R Rp = Rp.nss := by simp [sibs, hk]
    have hn : sortN R = 0 := by simp [sortN, hk]
    rw [hs] at hm hq; rw [hn] at hq
    (refine' Reads1.useNew (namespaces_S Tr ad p Rp _ hip) ?F9 ?N9 ?X9 ?T9 ?A9 ?p9 ?_; (case F9 => with_reducible assumption); (case N9 => with_reducible assumption); (case X9 => with_reducible assumption); (case T9 => with_reducible assumption); (case A9 => (walk_at "mA")); (case p9 => (walk_at "mT"))); intro a9 o9 h9 tk9 F9 N9 ne9 e9 p9; obtain ⟨vs, c, rfl, hI⟩ := p9; (try dsimp only)
    (walk_at "mgo")
    with_reducible rename Fr _ _ _ _ => F5
    with_reducible rename News _ _ _ _ => N5
    exact ret _ _ _ F5.keep ⟨_, newObj_of N5 (.head _), _, rfl, by rw [hq]; exact .cons _ _ (.cons _ _ .nil)⟩
  · with_reducible rename ((_ == Str.ofString "namespace") = false) => hk1
    with_reducible rename ((_ == Str.ofString "attribute") = true) => hk3
    have hk : R.kind ≠ Str.ofString "namespace" := by simpa using hk1
    have hk2 : R.kind = Str.ofString "attribute" := eq_of_beq hk3
    have hs : sibs R Rp = Rp.atts := by unfold sibs; rw [if_neg hk]; first | rw [if_pos hk2] | rw [if_neg hk2]
    have hn : sortN R = 1 := by unfold sortN; rw [if_neg hk]; first | rw [if_pos hk2] | rw [if_neg hk2]
    rw [hs] at hm hq; rw [hn] at hq
    (refine' Reads1.useNew (attributes_S Tr ad p Rp _ hip) ?F9 ?N9 ?X9 ?T9 ?A9 ?p9 ?_; (case F9 => with_reducible assumption); (case N9 => with_reducible assumption); (case X9 => with_reducible assumption); (case T9 => with_reducible assumption); (case A9 => (walk_at "mA")); (case p9 => (walk_at "mT"))); intro a9 o9 h9 tk9 F9 N9 ne9 e9 p9; obtain ⟨vs, c, rfl, hI⟩ := p9; (try dsimp only)
    (walk_at "mgo")
    with_reducible rename Fr _ _ _ _ => F5
    with_reducible rename News _ _ _ _ => N5
    exact ret _ _ _ F5.keep ⟨_, newObj_of N5 (.head _), _, rfl, by rw [hq]; exact .cons _ _ (.cons _ _ .nil)⟩
  · with_reducible rename ((_ == Str.ofString "namespace") = false) => hk1
    with_reducible rename ((_ == Str.ofString "attribute") = false) => hk3
    have hk : R.kind ≠ Str.ofString "namespace" := by simpa using hk1
    have hk2 : R.kind ≠ Str.ofString "attribute" := by simpa using hk3
    have hs : sibs R Rp = Rp.kids := by unfold sibs; rw [if_neg hk]; first | rw [if_pos hk2] | rw [if_neg hk2]
    have hn : sortN R = 2 := by unfold sortN; rw [if_neg hk]; first | rw [if_pos hk2] | rw [if_neg hk2]
    rw [hs] at hm hq; rw [hn] at hq
    (refine' Reads1.useNew (children_S Tr ad p Rp _ hip) ?F9 ?N9 ?X9 ?T9 ?A9 ?p9 ?_; (case F9 => with_reducible assumption); (case N9 => with_reducible assumption); (case X9 => with_reducible assumption); (case T9 => with_reducible assumption); (case A9 => (walk_at "mA")); (case p9 => (walk_at "mT"))); intro a9 o9 h9 tk9 F9 N9 ne9 e9 p9; obtain ⟨vs, c, rfl, hI⟩ := p9; (try dsimp only)
    (walk_at "mgo")
    with_reducible rename Fr _ _ _ _ => F5
    with_reducible rename News _ _ _ _ => N5
    exact ret _ _ _ F5.keep ⟨_, newObj_of N5 (.head _), _, rfl, by rw [hq]; exact .cons _ _ (.cons _ _ .nil)⟩
end
theorem topOff_place2 : True := by
  w_top off
  trivial
section
variable {prog : Program} {w : World} {loose : List Str} {mean : ExcName → Option Value} {mg mb : Str → Option Value}
theorem place_of_S (Tr : List RowD) (ad : TAd) (i : Nat) (l : List Nat) (tk : Tok) (hu : Up Tr i l) (hl : l.length ≤ 200) (hlk : Linked Tr l.reverse) :
    Reads1 prog w loose mean mg mb 42 [.ref ad.t, .int (i : Nat) tk] 4 12 (fun h => TreeH h Tr ad) (fun h v h' => ∃ o, NewObj h v h' o ∧ TupOf (placeL Tr l.reverse) o) := by
  intro A s Q E hA T X hT ret
  have hrl : l.reverse.length ≤ 200 := by rw [List.length_reverse]; exact hl
  refine' enterK [(Str.ofString "tree", .ref ad.t), (Str.ofString "node", .int (i : Nat) tk)] X T ?k6 ?k7 ?k8 ?k9 ?kB ?_ ?c2 ?c3 ?c4 ?c5
  (case k6 => k_dflt k_is); (case k7 => k_dflt k_is); (case k8 => with_reducible assumption); (case k9 => exact rfl); (case kB => exact rfl); (case c5 => decide); (case c2 => exact rfl); (case c3 => exact rfl); (case c4 => exact rfl)
  intro L h₁ F N hA'
  k_fold
  obtain ⟨r0, rest, hrev⟩ : ∃ r0 rest, l.reverse = r0 :: rest := by
    cases hq : l.reverse with
    | nil => rw [List.reverse_eq_nil_iff] at hq; subst hq; cases hu
    | cons a r => exact ⟨a, r, rfl⟩
  have S := lines_down_S (prog := prog) (w := w) (loose := loose) (mean := mean) (mg := mg) (mb := mb) Tr ad i l tk hu hl
  rw [hrev] at S hlk hrl ret
  clear hrev
  (walk_at "mgo")
  (refine' Reads1.useNew (S) ?F9 ?N9 ?X9 ?T9 ?A9 ?p9 ?_; (case F9 => with_reducible assumption); (case N9 => with_reducible assumption); (case X9 => with_reducible assumption); (case T9 => with_reducible assumption); (case A9 => (walk_at "mA")); (case p9 => (walk_at "mT"))); intro a9 o9 h9 tk9 F9 N9 ne9 e9 p9; obtain ⟨vs, c, rfl, hI⟩ := p9; (try dsimp only)
  have hvl := hI.length
  rw [natInts_length] at hvl
  have hrl2 : (natInts (r0 :: rest)).length ≤ 200 := by rw [natInts_length]; exact hrl
  have hpos : 0 < (natInts (r0 :: rest)).length := by simp [natInts]
  (walk_at "mgo")
  refine wpAny_For ?_ (fun _ => rfl)
  (walk_at "mgo")
  with_reducible rename Fr _ _ _ _ => F2
  with_reducible rename News _ _ _ _ => N2
  with_reducible rename IntsAre _ _ => hI2
  rename_i h30 t0 fa h31 la h32 D ws h33 hC hL lD
  have hD := N2 (D, listOf ws.toArray 0) (.head _)
  have hD2 := N2 (a9, listOf vs.toArray c) (by k_mem)
  have ht0 : placeL Tr ((r0 :: rest).take 1) = [(r0 : Int)] := by simp [placeL, pairsPl]
  refine zip_call (h₀ := s.heap) (news := [(fa, tupObj [.int (r0 : Nat) t0])]) (xs := r0 :: rest) (ys := rest) (fun k m₁ news₁ => ∃ (fa : Addr) (vs : List Value), m₁ (Str.ofString "tree") = some (.ref ad.t) ∧ m₁ (Str.ofString "found") = some (.ref fa) ∧ news₁ = [(fa, tupObj vs)] ∧ IntsAre vs (placeL Tr ((r0 :: rest).take (k + 1))))
    hA'.hd rfl rfl rfl (PySem.IsL.isList (n := c) hD2.1) (PySem.IsL.isList (n := 0) hD.1) hI hI2 hD2.2.1 hD.2.1 F2 N2 (fun p hp => ?hsub) ⟨fa, [.int (r0 : Nat) t0], rfl, rfl, rfl, ?hstart⟩ (fun p hp => ?hn1) (fun p hp => ?hn2) ?_ ?_
  case hsub => rcases List.mem_cons.mp hp with rfl | hp; exact .tail _ (.head _); cases hp
  case hstart => rw [ht0]; exact .cons _ _ .nil
  case hn1 => rcases List.mem_cons.mp hp with rfl | hp; exact Nat.ne_of_gt la; cases hp
  case hn2 => rcases List.mem_cons.mp hp with rfl | hp; exact Nat.ne_of_lt lD.1; cases hp
  · rintro k x y tx ty m₁ news₁ h₃ tk₃ own hx hy ⟨fb, vb, hm1, hm2, rfl, hIb⟩ hap F3 N3
    have F4 := fr_look [(Str.ofString "above", .int (x : Nat) tx), (Str.ofString "below", .int (y : Nat) ty), (Str.ofString "tree", .ref ad.t), (Str.ofString "found", .ref fb)] F3 (List.forall_mem_cons.mpr ⟨by first | rfl | assumption, List.forall_mem_cons.mpr ⟨by first | rfl | assumption, List.forall_mem_cons.mpr ⟨by first | rfl | assumption, List.forall_mem_cons.mpr ⟨by first | rfl | assumption, List.forall_mem_nil _⟩⟩⟩⟩)
    clear F3 F2 N2
    have hy' : (r0 :: rest)[k + 1]? = some y := hy
    obtain ⟨Rx, Ry, hrx, hry, hm⟩ := hlk k x y hx hy'
    have hpl := placeL_take Tr (r0 :: rest) k x y hx hy'
    have hkl : k < (r0 :: rest).length := (List.getElem?_eq_some_iff.mp hx).1
    have hbl := hIb.length
    have hpl2 := placeL_len Tr ((r0 :: rest).take (k + 1))
    rw [List.length_take] at hpl2
    have hpos2 : 0 < (placeL Tr ((r0 :: rest).take (k + 1))).length := by simp [placeL]
    (try dsimp only); (try k_fold)
    (walk_at "mgo")
    (refine' Reads1.useNew (place_among_S Tr ad x y Rx Ry _ _ hrx hry hm) ?F9 ?N9 ?X9 ?T9 ?A9 ?p9 ?_; (case F9 => with_reducible assumption); (case N9 => with_reducible assumption); (case X9 => with_reducible assumption); (case T9 => with_reducible assumption); (case A9 => (walk_at "mA")); (case p9 => (walk_at "mT"))); intro a9 o9 h9 tk9 F9 N9 ne9 e9 p9; obtain ⟨vq, rfl, hIq⟩ := p9; (try dsimp only)
    have hql := hIq.length
    simp only [amongOf, List.length_cons, List.length_nil] at hql
    (walk_at "mgo")
    refine add_tups F9 N9 (N9.get (by k_mem)) (N9.get (.head _)) hIb hIq (by omega) (by simp [amongOf]) (by simp only [amongOf, List.length_cons, List.length_nil]; omega) ?_
    intro D5 h5 F5 N5 l5 hI5
    (try dsimp only); (try k_fold)
    (walk_at "mgo")
    with_reducible rename Fr _ _ _ _ => F6
    with_reducible rename News _ _ _ _ => N6
    refine ⟨_, _, _, _, [(D5, tupObj (vb ++ vq))], rfl, F6, N6, fun p hp => ?_, fun p hp => ?_, fun p hp q hq => ?_, ?_⟩
    · simp [hp]
    · rcases List.mem_cons.mp hp with rfl | hp; exact .head _; cases hp
    · rcases List.mem_cons.mp hp with rfl | hp
      · exact Nat.ne_of_gt (l5 q (by simp [hq]))
      · cases hp
    · exact ⟨D5, vb ++ vq, rfl, rfl, rfl, by rw [hpl]; exact hI5⟩
  · rintro m₁ news₁ h₃ tk₃ ⟨fb, vb, hm1, hm2, rfl, hIb⟩ F3 N3
    have F4 := fr_look [(Str.ofString "tree", .ref ad.t), (Str.ofString "found", .ref fb)] F3 (List.forall_mem_cons.mpr ⟨by first | rfl | assumption, List.forall_mem_cons.mpr ⟨by first | rfl | assumption, List.forall_mem_nil _⟩⟩)
    clear F3 F2 N2
    (try dsimp only); (try k_fold)
    (walk_at "mgo")
    refine ret _ _ _ F4.keep ⟨_, newObj_of N3 (.head _), _, rfl, ?_⟩
    have hmin : min (r0 :: rest).length rest.length + 1 = (r0 :: rest).length := by simp
    rw [hmin, List.take_length] at hIb
    exact hIb
end
theorem topOff_before : True := by
  w_top off
  trivial
section
variable {prog : Program} {w : World} {loose : List Str} {mean : ExcName → Option Value} {mg mb : Str → Option Value}
theorem is_before_S (Tr : List RowD) (ad : TAd) (i j : Nat) (l r : List Nat) (ti tj : Tok) (hu : Up Tr i l) (hl : l.length ≤ 200) (hlk : Linked Tr l.reverse) (hu2 : Up Tr j r) (hl2 : r.length ≤ 200) (hlk2 : Linked Tr r.reverse) :
    Reads1 prog w loose mean mg mb 54 [.ref ad.t, .int (i : Nat) ti, .int (j : Nat) tj] 5 15 (fun h => TreeH h Tr ad) (fun h v h' => v = .bool (lexI (placeL Tr l.reverse) (placeL Tr r.reverse))) := by
  intro A s Q E hA T X hT ret
  refine' enterK [(Str.ofString "tree", .ref ad.t), (Str.ofString "one", .int (i : Nat) ti), (Str.ofString "other", .int (j : Nat) tj)] X T ?k6 ?k7 ?k8 ?k9 ?kB ?_ ?c2 ?c3 ?c4 ?c5
  (case k6 => k_dflt k_is); (case k7 => k_dflt k_is); (case k8 => with_reducible assumption); (case k9 => exact rfl); (case kB => exact rfl); (case c5 => decide); (case c2 => exact rfl); (case c3 => exact rfl); (case c4 => exact rfl)
  intro L h₁ F N hA'
  k_fold
  (walk_at "mgo")
  (refine' Reads1.useNew (place_of_S Tr ad i l _ hu hl hlk) ?F9 ?N9 ?X9 ?T9 ?A9 ?p9 ?_; (case F9 => with_reducible assumption); (case N9 => with_reducible assumption); (case X9 => with_reducible assumption); (case T9 => with_reducible assumption); (case A9 => (walk_at "mA")); (case p9 => (walk_at "mT"))); intro a9 o9 h9 tk9 F9 N9 ne9 e9 p9; obtain ⟨vp, rfl, hIp⟩ := p9; (try dsimp only)
  (walk_at "mgo")
  (refine' Reads1.useNew (place_of_S Tr ad j r _ hu2 hl2 hlk2) ?F9 ?N9 ?X9 ?T9 ?A9 ?p9 ?_; (case F9 => with_reducible assumption); (case N9 => with_reducible assumption); (case X9 => with_reducible assumption); (case T9 => with_reducible assumption); (case A9 => (walk_at "mA")); (case p9 => (walk_at "mT"))); intro a9 o9 h9 tk9 F9 N9 ne9 e9 p9; obtain ⟨vq, rfl, hIq⟩ := p9; (try dsimp only)
  (walk_at "mgo")
  refine lt_tups (N9.get (by k_mem)) (N9.get (by k_mem)) hIp hIq hA'.cl ?_
  (walk_at "mgo")
  exact ret _ _ _ F9.keep rfl
end
theorem topOff_inorder : True := by
  w_top off
  trivial
section
variable {prog : Program} {w : World} {loose : List Str} {mean : ExcName → Option Value} {mg mb : Str → Option Value}
def lamQual : Str := (Str.ofString "in_order" ++ Str.ofString ".<locals>.") ++ Str.ofString "<lambda>"
abbrev LamTab (h : Heap) (ps : Array Value) : Prop := LamTabAt 27 29 lamQual h ps
theorem in_order_S (Tr : List RowD) (ad : TAd) (na : Addr) (nodes : List Nat) (pl : Nat → List Int) (pos : Nat → Nat) (ps : Array Value)
    (hpl : ∀ y ∈ nodes, ∃ l, Up Tr y l ∧ l.length ≤ 200 ∧ Linked Tr l.reverse ∧ pl y = placeL Tr l.reverse) (hpp : ∀ y, 0 < (pl y).length) (hz : nodes.length < 64)
    (hlt : ∀ x ∈ nodes, ∀ y ∈ nodes, lexI (pl x) (pl y) = decide (pos x < pos y)) (hinj : ∀ x ∈ nodes, ∀ y ∈ nodes, pos x = pos y → x = y) :
    Muts prog w loose mean mg mb 47 [.ref ad.t, .ref na] 7 21 [44] (fun h => TreeH h Tr ad ∧ IntL h.get? na nodes ∧ CodeHd (hideAll h [44]) 46 44 ∧ h.get? 44 = some (tabObj ps) ∧ LamTab h ps ∧ 44 ∉ ad.all ∧ na ≠ 44)
      (fun h v h' => ∃ o ps' out, NewObj h v h' o ∧ ListOf out o ∧ (∀ x, x ∈ out ↔ x ∈ nodes) ∧ (out.Pairwise fun x y => pos x < pos y) ∧ h'.get? 44 = some (tabObj ps') ∧ LamTab h' ps') := by
  intro A s Q E hA T X ⟨hT, hN, hC, h44, hLam, hta, hna⟩ ret
  have X0 := X.keeps (hideAll_ext [44] s.heap)
  have T0 := T.keeps (hideAll_ext [44] s.heap)
  refine' enterC [(Str.ofString "tree", .ref ad.t), (Str.ofString "nodes", .ref na)] X0 T0 ?k6 ?k7 ?k8 ?k9 ?kB ?kD ?_ ?c2 ?c3 ?c4
  (case k6 => k_dflt k_is); (case k7 => k_dflt k_is); (case k8 => with_reducible assumption); (case k9 => exact rfl); (case kB => exact rfl); (case kD => decide +kernel); (case c2 => exact rfl); (case c3 => exact rfl); (case c4 => exact rfl)
  intro L h₁ tk0 cells' F0 N0 Y' hA'
  have hY := CellsAre.two Y'; obtain ⟨oc1, oc2, hE', dc1, dc2⟩ := hY; subst hE'; clear Y'
  replace dc1 : oc1.data = .cell none := dc1
  replace dc2 : oc2.data = .cell (some (.ref ad.t)) := dc2
  have h44L : @LT.lt Nat _ 44 L := Nat.lt_of_lt_of_le (Heap.lt_size h44) F0.above
  have hoff := hid_off (foot := [44]) F0 (fun a ha => by rw [List.mem_singleton.mp ha]; exact ⟨_, h44⟩)
  have F := fr_look [(Str.ofString "nodes", .ref na)] (hid_fr (foot := [44]) F0) (List.forall_mem_cons.mpr ⟨by first | rfl | assumption, List.forall_mem_nil _⟩)
  have N1 := off_news (hid_news (foot := [44]) N0) hoff (.head _) (F0.keep _ _ h44)
  have N : News (hideAll s.heap [44]) L h₁ [(L + 1 + 1, oc1), (L + 1, oc2), (44, tabObj ps)] := fun p hp => N1 p (by simp at hp ⊢; rcases hp with rfl | rfl | rfl <;> simp)
  have hT' : TreeH (hideAll s.heap [44]) Tr ad := hT.congr fun a ha => by
    obtain ⟨o, ho⟩ := hT.live a ha
    rw [ho]; exact hideAll_get _ ho (by simp; intro e; exact hta (e ▸ ha))
  have hN' : IntL (hideAll s.heap [44]).get? na nodes := by
    obtain ⟨vs, n, h1, h2⟩ := hN
    exact ⟨vs, n, hideAll_get _ h1 (by simpa using hna), h2⟩
  have hLam' : LamTab (hideAll s.heap [44]) ps := by
    rcases hLam with h | ⟨c', oc, vs, t, h1, h2, h3, h4⟩
    · exact .inl h
    · refine .inr ⟨c', oc, vs, t, h1, hideAll_get _ h2 (fun e => ?_), h3, h4⟩
      rw [List.mem_singleton.mp e, h44] at h2
      cases h2
      have h3' : Data.fields ps = Data.fields vs := h3
      injection h3' with h5
      rw [← h5, h1] at h4
      cases h4
  clear N0 N1 F0 hT hN
  (try dsimp only); (try k_fold)
  (walk_at "mgo")
  refine DictComp_ints F (by with_unfolding_all rfl) (by decide) (by rfl) (by decide) (by rfl) ?_
  refine ldLoc F rfl ?_
  obtain ⟨vn, cn, hvn, hIn⟩ := hN'
  refine DcSrc.mk (news := [(L + 1 + 1, oc1), (L + 1, oc2), (44, tabObj ps)]) (xs := nodes)
    (fun done _ kvs news => ∃ tups ks, news = (L + 1 + 1, oc1) :: (L + 1, oc2) :: (44, tabObj ps) :: tups ∧ (∀ p ∈ tups, p.1 ≠ L + 1 + 1 ∧ p.1 ≠ 44) ∧ (∀ x ∈ kvs, ∃ (y : Nat) (fa : Addr) (vt : List Value), x = ((y : Int), Value.ref fa) ∧ (fa, tupObj vt) ∈ tups ∧ IntsAre vt (pl y)) ∧ kvs.map (·.1) = natInts ks ∧ (∀ x, x ∈ ks ↔ x ∈ done))
    hA'.hd F N (fun p hp => hp) (.inl (PySem.IsL.isList (n := cn) hvn)) hIn (by omega) ⟨[], [], rfl, by simp, by simp, rfl, by simp⟩ ?_ ?_
  · rintro done y rest kvs oD news t I oI C oC D m₂ h tk E' hx ⟨tups, ks, rfl, htp, hkv, hks, hkd⟩ hdo hC8 hm8 F8 N8 off ne
    obtain ⟨l, hu, hl, hlk, hpy⟩ := hpl y (by rw [hx]; simp)
    (try dsimp only)
    (walk_at "mgo")
    (refine' Reads1.useNew (place_of_S Tr ad y l _ hu hl hlk) ?F9 ?N9 ?X9 ?T9 ?A9 ?p9 ?_; (case F9 => with_reducible assumption); (case N9 => with_reducible assumption); (case X9 => with_reducible assumption); (case T9 => with_reducible assumption); (case A9 => (walk_at "mA")); (case p9 => (walk_at "mT"))); intro a9 o9 h9 tk9 F9 N9 ne9 e9 p9; obtain ⟨vp, rfl, hIp⟩ := p9; (try dsimp only)
    refine DcEnd.mk F9 N9 ((L + 1 + 1, oc1) :: (L + 1, oc2) :: (44, tabObj ps) :: (a9, tupObj vp) :: tups) (fun p hp => ?hs) ?ho (.inl (PySem.IsL.isList (n := cn) hvn)) ⟨(a9, tupObj vp) :: tups, if y ∈ ks then ks else ks ++ [y], rfl, ?h1, ?h2, ?h3, ?h4⟩
    case hs => simp at hp ⊢; rcases hp with h | h | h | h | h | h | h | h <;> simp [h]
    case ho =>
      have off3 := off.mem
      refine LCg.Off3.of fun p hp => ?_
      by_cases hpa : p = (a9, tupObj vp)
      · rw [hpa]
        exact ⟨Ne.symm (ne9 (I, oI) (by simp)), Ne.symm (ne9 (C, oC) (by simp)), Ne.symm (ne9 (D, oD) (by simp))⟩
      · exact off3 p (by
          rcases List.mem_cons.mp hp with rfl | hp
          · exact .head _
          rcases List.mem_cons.mp hp with rfl | hp
          · exact .tail _ (.head _)
          rcases List.mem_cons.mp hp with rfl | hp
          · exact .tail _ (.tail _ (.head _))
          rcases List.mem_cons.mp hp with rfl | hp
          · exact absurd rfl hpa
          · exact .tail _ (.tail _ (.tail _ hp)))
    case h1 =>
      intro p hp
      rcases List.mem_cons.mp hp with rfl | hp
      · exact ⟨Ne.symm (ne9 (L + 1 + 1, oc1) (by simp)), Ne.symm (ne9 (44, tabObj ps) (by simp))⟩
      · exact htp p hp
    case h2 =>
      intro x hx'
      rcases stored_mem x hx' with rfl | hx'
      · exact ⟨y, a9, vp, rfl, .head _, hpy ▸ hIp⟩
      · obtain ⟨y', fa, vt, e1, e2, e3⟩ := hkv x hx'
        exact ⟨y', fa, vt, e1, .tail _ e2, e3⟩
    case h3 =>
      have hmem : ((y : Int) ∈ natInts ks) ↔ y ∈ ks := by
        unfold natInts
        rw [List.mem_map]
        exact ⟨fun ⟨a, ha, e⟩ => (Int.ofNat.inj e) ▸ ha, fun h => ⟨y, h, rfl⟩⟩
      rw [stored_keys, hks]
      by_cases hyk : y ∈ ks
      · rw [if_pos (hmem.mpr hyk), if_pos hyk]
      · rw [if_neg (fun q => hyk (hmem.mp q)), if_neg hyk, natInts_append]; rfl
    case h4 =>
      intro x
      by_cases hyk : y ∈ ks
      · rw [if_pos hyk, hkd]
        constructor
        · intro h; exact List.mem_append.mpr (.inl h)
        · intro h
          rcases List.mem_append.mp h with h | h
          · exact h
          · rw [List.mem_singleton.mp h]; exact (hkd y).mp hyk
      · rw [if_neg hyk]; simp [hkd]
  · rintro D oD kvs h tk news ⟨tups, ks, rfl, htp, hkv, hks, hkd⟩ hLD hdo F8 N8 off
    have hD2 : D ≠ L + 1 + 1 := Ne.symm off.1
    refine stCN (own := [(D, oD)]) (rest := (L + 1, oc2) :: (44, tabObj ps) :: tups) F8 N8 rfl dc1 (fun p hp => by rw [List.mem_singleton.mp hp]; exact hD2) (fun p hp => ?hr) ?_
    case hr =>
      rcases List.mem_cons.mp hp with rfl | hp
      · exact Nat.ne_of_lt (Nat.lt_succ_self _)
      rcases List.mem_cons.mp hp with rfl | hp
      · exact Nat.ne_of_lt (Nat.lt_succ_of_lt (Nat.lt_succ_of_lt h44L))
      · exact (htp p hp).1
    intro h5 o5 F5 N5 hd5
    rw [List.singleton_append] at N5
    clear N8 F8 F N
    (try dsimp only); (try k_fold)
    (walk_at "mgo")
    refine kla_eval rfl ?_
    refine lam_any (ps := ps) F5 N5 T hC rfl (.tail (Nat.ne_of_gt (Nat.lt_trans h44L hLD)) (.tail (Nat.ne_of_gt (Nat.lt_succ_of_lt (Nat.lt_succ_of_lt h44L))) (.tail (Nat.ne_of_gt (Nat.lt_succ_of_lt h44L)) (.head fun p hp => (htp p hp).2)))) hLam' rfl ?_
    intro f c' oc vsc tc ctv h6 tk6 extra ps' F6 N6' hps hdc hvc hcc hex hnf
    have N6 : News (hideAll s.heap [44]) L h6 ((f, _) :: (D, oD) :: (L + 1 + 1, o5) :: (L + 1, oc2) :: (44, tabObj ps') :: (extra ++ tups)) := fun p hp => N6' p (by
      rcases List.mem_cons.mp hp with rfl | hp
      · exact .head _
      refine .tail _ (List.mem_append.mpr ?_)
      rcases List.mem_cons.mp hp with rfl | hp
      · exact .inr (.head _)
      rcases List.mem_cons.mp hp with rfl | hp
      · exact .inr (.tail _ (.head _))
      rcases List.mem_cons.mp hp with rfl | hp
      · exact .inr (.tail _ (.tail _ (.head _)))
      rcases List.mem_cons.mp hp with rfl | hp
      · exact .inr (.tail _ (.tail _ (.tail _ (.head _))))
      rcases List.mem_append.mp hp with hp | hp
      · exact .inl hp
      · exact .inr (.tail _ (.tail _ (.tail _ (.tail _ hp)))))
    clear N6' N5 F5
    (try dsimp only); (try k_fold)
    (walk_at "mgo")
    have hkk : ∀ x, x ∈ ks ↔ x ∈ nodes := hkd
    have hknd : ks.Nodup := by
      obtain ⟨ep, hat⟩ := (show h6.DictOf (ik prog w) D kvs from Heap.dictOf_iff.mpr ⟨oD, (N6.get (.tail _ (.head _))), hdo⟩).dictAt
      have := hat.nodup
      rw [hks] at this
      exact (List.pairwise_map.mp this).imp fun h e => h (by rw [e])
    have hkz : ks.length < 64 := Nat.lt_of_le_of_lt (hknd.length_le_of_subset fun x hx => (hkk x).mp hx) hz
    refine sorted_known (q := f) (pl := pl) (pos := pos) hA'.hd F6 N6 (.tail _ (.head _)) hdo (beq_eq_false_iff_ne.mpr ?lo) hks hkz hpp (fun x hx y hy => hlt x ((hkk x).mp hx) y ((hkk y).mp hy)) (fun x hx y hy => hinj x ((hkk x).mp hx) y ((hkk y).mp hy)) ?turn ?_
    case lo => exact Nat.ne_of_gt (Nat.lt_trans (Nat.lt_of_le_of_lt (by decide : (1 : Nat) ≤ 44) h44L) hLD)
    case turn =>
      intro y t h7 tk7 own hy F7 N7
      refine enterLam [(Str.ofString "node", .int (y : Nat) t)] F7 N7 T (List.mem_append_right _ (.head _)) ?hcd (d := 1) (u := 3) ?hA rfl (by simp) ?_ rfl rfl rfl (by decide)
      case hcd =>
        refine ⟨c', oc, vsc, tc, rfl, ?_, hdc, hvc⟩
        rcases hcc with hcc | hcc
        · exact N7.get (List.mem_append_right _ (.tail _ (.tail _ (.tail _ (.tail _ (.tail _ (List.mem_append_left _ hcc)))))))
        · exact F7.keep _ _ hcc
      case hA => exact (AOk.in1 (AOk.in1 (hA'.le (d' := 2) (u' := 8) (by omega) (by omega))))
      intro L' h8 F8 hA8
      have N8 := news_ext N7 F8.keep
      have F8' := fr_ext F7 F8.keep
      walk1
      refine ldFreeX rfl (N8.get (List.mem_append_right _ (.tail _ (.tail _ (.head _))))) hd5 ?_
      refine nameX_L F8 rfl ?_
      obtain ⟨v, hv1, hv2⟩ := stored_val (kvs := kvs) (k := (y : Int)) (by rw [hks]; exact List.mem_map.mpr ⟨y, hy, rfl⟩)
      obtain ⟨y', fa, vt, e1, e2, e3⟩ := hkv _ hv2
      cases e1
      refine item_known (N8.get (List.mem_append_right _ (.tail _ (.head _)))) hdo hv1 ?_
      exact ⟨_, _, fa, vt, rfl, rfl, F8', N8, .tail _ (.tail _ (.tail _ (.tail _ (.tail _ (List.mem_append_right _ e2))))), e3⟩
    · intro D2 h7 tk7 vs7 out c7 F7 N7 hne hI7 hout
      repeat walk_at "gq"
      refine ret _ _ _ (ret_mod F7) ⟨_, ps', out, ?_, ⟨vs7, c7, rfl, hI7⟩, fun x => ?_, hout.2, N7.get (.tail _ (.tail _ (.tail _ (.tail _ (.tail _ (.head _)))))), ?_⟩
      · refine ⟨D2, rfl, ?_, N7.get (.head _)⟩
        cases hq : s.heap.get? D2 with
        | none => rfl
        | some o =>
          by_cases h : D2 = 44
          · exact absurd h.symm (hne (44, tabObj ps') (.tail _ (.tail _ (.tail _ (.tail _ (.head _))))))
          · have := hideAll_get [44] hq (by simpa using h)
            rw [(N7 _ (.head _)).2.2] at this; cases this
      · rw [hout.1.mem_iff]; exact hkk x
      · refine .inr ⟨c', oc, vsc, tc, hps, ?_, hdc, hvc⟩
        rcases hcc with hcc | hcc
        · exact N7.get (.tail _ (.tail _ (.tail _ (.tail _ (.tail _ (.tail _ (List.mem_append_left _ hcc)))))))
        · exact F7.keep _ _ hcc
end
theorem topOff_scope : True := by
  w_top off
  trivial
section
variable {prog : Program} {w : World} {loose : List Str} {mean : ExcName → Option Value} {mg mb : Str → Option Value}
theorem Up.mem {T : List RowD} {i : Nat} {l : List Nat} (h : Up T i l) : ∀ a ∈ l, ∃ R, T[a]? = some R := by
  induction h with
  | top h1 h2 => intro a ha; rw [List.mem_singleton.mp ha]; exact ⟨_, h1⟩
  | step h1 h2 _ ih =>
    intro a ha
    rcases List.mem_cons.mp ha with rfl | ha
    · exact ⟨_, h1⟩
    · exact ih a ha
def NssOk (T : List RowD) : Prop := ∀ (a : Nat) (Ra : RowD), T[a]? = some Ra → ∀ j ∈ Ra.nss, ∃ Rj : RowD, T[j]? = some Rj
local macro_rules | `(tactic| walk_at "setItem ref str") => `(tactic| (k_dflt (refine' sd_set (by walk_at "q") (by walk_at "q") (by k_updF) (by walk_at "q") (by walk_at "q") (by omega) ?_); intro _ _ _ _ _ _ _))
inductive JScope (prog : Program) (w : World) (Tr : List RowD) (ad : TAd) (done : List Nat) (x1 : List Nat) (m₁ : Str → Option Value) (news₁ : List (Addr × Obj)) : Prop
  | intro (fa : Addr) (o : Obj) (kvs : List (Str × Value)) : (m₁ (Str.ofString "tree") = some (.ref ad.t)) → (m₁ (Str.ofString "found") = some (.ref fa)) → (news₁ = [(fa, o)]) → ((fa == sysModules) = false) → (o.IsDictOf (sk prog w) kvs) → (SP kvs (done.foldl (lineStep Tr) xmlPair)) → (kvs.length ≤ 1 + 100 * done.length) → JScope prog w Tr ad done x1 m₁ news₁
inductive JScope2 (prog : Program) (w : World) (Tr : List RowD) (ad : TAd) (y : Nat) (t : Tok) (fa : Addr) (own : List (Addr × Obj)) (dn : List Nat) (done2 : List Nat) (x1 : List Nat) (m₂ : Str → Option Value) (news₂ : List (Addr × Obj)) : Prop
  | intro (o2 : Obj) (kvs2 : List (Str × Value)) : (m₂ (Str.ofString "tree") = some (.ref ad.t)) → (m₂ (Str.ofString "found") = some (.ref fa)) → (m₂ (Str.ofString "above") = some (.int (y : Nat) t)) → (news₂ = (fa, o2) :: own) → (o2.IsDictOf (sk prog w) kvs2) → (SP kvs2 (done2.foldl (nsStep Tr) (dn.foldl (lineStep Tr) xmlPair))) → (kvs2.length ≤ 1 + 100 * dn.length + done2.length) → JScope2 prog w Tr ad y t fa own dn done2 x1 m₂ news₂
theorem scope_of_S (Tr : List RowD) (ad : TAd) (i : Nat) (l : List Nat) (tk : Tok) (hu : Up Tr i l) (hl : l.length ≤ 200) (hns : NssOk Tr) :
    Reads1 prog w loose mean mg mb 73 [.ref ad.t, .int (i : Nat) tk] 4 12 (fun h => TreeH h Tr ad) (fun h v h' => ∃ o kvs, NewObj h v h' o ∧ o.IsDictOf (sk prog w) kvs ∧ SP kvs (scopeD Tr l.reverse) ∧ ∀ a, v = .ref a → (a == sysModules) = false) := by
  intro A s Q E hA T X hT ret
  refine' enterK [(Str.ofString "tree", .ref ad.t), (Str.ofString "element", .int (i : Nat) tk)] X T ?k6 ?k7 ?k8 ?k9 ?kB ?_ ?c2 ?c3 ?c4 ?c5
  (case k6 => k_dflt k_is); (case k7 => k_dflt k_is); (case k8 => with_reducible assumption); (case k9 => exact rfl); (case kB => exact rfl); (case c5 => decide); (case c2 => exact rfl); (case c3 => exact rfl); (case c4 => exact rfl)
  intro L h₁ F N hA'
  k_fold
  have hum := hu.mem
  (walk_at "mgo")
  (refine' Reads1.useNew (lines_down_S Tr ad i l _ hu hl) ?F9 ?N9 ?X9 ?T9 ?A9 ?p9 ?_; (case F9 => with_reducible assumption); (case N9 => with_reducible assumption); (case X9 => with_reducible assumption); (case T9 => with_reducible assumption); (case A9 => (walk_at "mA")); (case p9 => (walk_at "mT"))); intro a9 o9 h9 tk9 F9 N9 ne9 e9 p9; obtain ⟨vs, c, rfl, hI⟩ := p9; (try dsimp only)
  rename_i hX0 oX loX hdX hfX apX lX hX1 lFX NX
  have hlens := hT.lens
  refine loop_list (xs := l.reverse) (news := [(_, oX)]) (JScope prog w Tr ad)
    hA'.hd (N9 _ (.head _)).1 hI (N9 _ (.head _)).2.1 F9 N9 (fun p hp => List.Mem.tail _ hp) ⟨_, oX, _, rfl, rfl, rfl, loX, hdX, .cons _ _ _ .nil, by simp [strPairs]⟩ ?_ ?_
  · rintro dn y rest t m₁ news₁ h₃ tk₃ own hsp ⟨fa, o, kvs, hm1, hm2, rfl, lo, hd, hf, hz⟩ hown F3 N3
    have F4 := fr_look [(Str.ofString "above", .int (y : Nat) t), (Str.ofString "tree", .ref ad.t), (Str.ofString "found", .ref fa)] F3 (List.forall_mem_cons.mpr ⟨by first | rfl | assumption, List.forall_mem_cons.mpr ⟨by first | rfl | assumption, List.forall_mem_cons.mpr ⟨by first | rfl | assumption, List.forall_mem_nil _⟩⟩⟩)
    clear F3 F9 N9 NX lFX
    obtain ⟨Ry, hy⟩ := hum y (by rw [← List.mem_reverse, hsp]; simp)
    have hly := hlens y Ry hy
    have hdl : dn.length ≤ 200 := by
      have := congrArg List.length hsp
      rw [List.length_reverse, List.length_append] at this
      omega
    (try dsimp only); (try k_fold)
    (walk_at "mgo")
    (refine' Reads1.useNew (namespaces_S Tr ad y Ry _ hy) ?F9 ?N9 ?X9 ?T9 ?A9 ?p9 ?_; (case F9 => with_reducible assumption); (case N9 => with_reducible assumption); (case X9 => with_reducible assumption); (case T9 => with_reducible assumption); (case A9 => (walk_at "mA")); (case p9 => (walk_at "mT"))); intro a9 o9 h9 tk9 F9 N9 ne9 e9 p9; obtain ⟨vn, cn, rfl, hIn⟩ := p9; (try dsimp only)
    have hD := N9 _ (List.Mem.head _)
    refine loop_listA (xs := Ry.nss) (news := (fa, o) :: own) (JScope2 prog w Tr ad y t fa own dn)
      hA'.hd hD.1 hIn hD.2.1 F9 N9 (fun p hp => List.Mem.tail _ hp) ⟨o, kvs, rfl, rfl, rfl, rfl, hd, hf, by simpa using hz⟩ ?_ ?_
    · rintro dn2 y2 rest2 t2 m₂ news₂ h₅ tk₅ own2 I2 hsp2 ⟨o2, kvs2, hq1, hq2, hq3, rfl, hd2, hf2, hz2⟩ hI2 hown2 F5 N5
      have hdn2 : dn2.length ≤ 100 := by
        have := congrArg List.length hsp2
        rw [List.length_append] at this
        omega
      have F6 := fr_look [(Str.ofString "node", .int (y2 : Nat) t2), (Str.ofString "tree", .ref ad.t), (Str.ofString "found", .ref fa), (Str.ofString "above", .int (y : Nat) t)] F5 (List.forall_mem_cons.mpr ⟨by first | rfl | assumption, List.forall_mem_cons.mpr ⟨by first | rfl | assumption, List.forall_mem_cons.mpr ⟨by first | rfl | assumption, List.forall_mem_cons.mpr ⟨by first | rfl | assumption, List.forall_mem_nil _⟩⟩⟩⟩)
      clear F5
      obtain ⟨R2, hy2⟩ := hns y Ry hy y2 (by rw [hsp2]; simp)
      (try dsimp only); (try k_fold)
      (walk_at "mgo")
      (refine' Reads1.use (name_S Tr ad y2 R2 _ hy2) ?F9 ?N9 ?X9 ?T9 ?A9 ?p9 ?_; (case F9 => with_reducible assumption); (case N9 => with_reducible assumption); (case X9 => with_reducible assumption); (case T9 => with_reducible assumption); (case A9 => (walk_at "mA")); (case p9 => (walk_at "mT"))); intro v9 h9 tk9 F9 N9 e9 p9; obtain ⟨tn, rfl⟩ := p9; (try dsimp only)
      (walk_at "mgo")
      (refine' Reads1.use (value_S Tr ad y2 R2 _ hy2) ?F9 ?N9 ?X9 ?T9 ?A9 ?p9 ?_; (case F9 => with_reducible assumption); (case N9 => with_reducible assumption); (case X9 => with_reducible assumption); (case T9 => with_reducible assumption); (case A9 => (walk_at "mA")); (case p9 => (walk_at "mT"))); intro v9 h9 tk9 F9 N9 e9 p9; obtain ⟨tv, rfl⟩ := p9; (try dsimp only)
      (walk_at "mgo")
      · with_reducible rename Fr _ _ _ _ => F7
        with_reducible rename News _ _ _ _ => N7
        with_reducible rename ((_ != _) = true) => hne
        have hst : nsStep Tr (dn2.foldl (nsStep Tr) (dn.foldl (lineStep Tr) xmlPair)) y2 = putS (dn2.foldl (nsStep Tr) (dn.foldl (lineStep Tr) xmlPair)) R2.name R2.value := by
          rw [nsStep_eq hy2, if_neg (by simpa using hne)]
        have hap := own_ne (d := fa) (o := o2) (own := own ++ own2) N7 (fun p hp => .tail _ (.tail _ hp)) (.tail _ (.head _)) (fun p hp => by
          rw [dict_cls hd2]
          rcases List.mem_append.mp hp with hp | hp
          · rcases hown p hp with h | h <;> rw [h] <;> decide
          · rcases hown2 p hp with h | h <;> rw [h] <;> decide)
        have hap2 := own_ne (d := fa) (o := o2) (own := [(_, _)]) N7 (fun p hp => by rw [List.mem_singleton.mp hp]; exact .head _) (.tail _ (.head _)) (fun p hp => by
          rw [dict_cls hd2, List.mem_singleton.mp hp]; simp)
        refine sd_set F7 N7 (.tail (hap2 _ (.head _)) (.head hap)) hd2 hf2 (by have := hf2.len; omega) ?_
        intro h8 o8 kvs8 F8 N8 hd8 hf8
        (try dsimp only); (try k_fold)
        (walk_at "mgo")
        refine ⟨_, _, _, _, (fa, o8) :: own, rfl, F8, N8, fun p hp => ?_, fun p hp => ?_, fun p hp => ?_, o8, kvs8, rfl, rfl, rfl, rfl, hd8, ?_, ?_⟩
        · exact .tail _ (.tail _ (List.mem_append_right _ hp))
        · rcases List.mem_cons.mp hp with rfl | hp
          · exact .tail _ (.head _)
          · exact .tail _ (.tail _ (List.mem_append_left _ hp))
        · rcases List.mem_cons.mp hp with rfl | hp
          · exact hI2 (fa, o2) (.head _)
          · exact hI2 p (.tail _ hp)
        · rw [List.foldl_append]; simp only [List.foldl_cons, List.foldl_nil]; rw [hst]; exact hf8
        · have := hf8.len; have := hf2.len; have := putS_len (dn2.foldl (nsStep Tr) (dn.foldl (lineStep Tr) xmlPair)) R2.name R2.value; simp only [List.length_append, List.length_singleton]; omega
      · with_reducible rename Fr _ _ _ _ => F7
        with_reducible rename News _ _ _ _ => N7
        with_reducible rename ((_ != _) = false) => hne
        have hne' : R2.value = Str.ofString "" := by simpa using hne
        have hap := own_ne (d := fa) (o := o2) (own := own ++ own2) N7 (fun p hp => .tail _ (.tail _ hp)) (.tail _ (.head _)) (fun p hp => by
          rw [dict_cls hd2]
          rcases List.mem_append.mp hp with hp | hp
          · rcases hown p hp with h | h <;> rw [h] <;> decide
          · rcases hown2 p hp with h | h <;> rw [h] <;> decide)
        have hap2 := own_ne (d := fa) (o := o2) (own := [(_, _)]) N7 (fun p hp => by rw [List.mem_singleton.mp hp]; exact .head _) (.tail _ (.head _)) (fun p hp => by
          rw [dict_cls hd2, List.mem_singleton.mp hp]; simp)
        refine sd_in (N7 _ (.tail _ (.head _))).1 hd2 hf2 lo ?_
        (try dsimp only); (try k_fold)
        (walk_at "mgo")
        · with_reducible rename (hasS _ _ = true) => hhas
          have hst : nsStep Tr (dn2.foldl (nsStep Tr) (dn.foldl (lineStep Tr) xmlPair)) y2 = delS (dn2.foldl (nsStep Tr) (dn.foldl (lineStep Tr) xmlPair)) R2.name := by
            rw [nsStep_eq hy2, if_pos hne', if_pos hhas]
          refine sd_pop F7 N7 (.tail (hap2 _ (.head _)) (.head hap)) hd2 hf2 (by have := hf2.len; omega) hhas ?_
          intro h8 o8 kvs8 v8 F8 N8 hd8 hf8
          (try dsimp only); (try k_fold)
          (walk_at "mgo")
          refine ⟨_, _, _, _, (fa, o8) :: own, rfl, F8, N8, fun p hp => ?_, fun p hp => ?_, fun p hp => ?_, o8, kvs8, rfl, rfl, rfl, rfl, hd8, ?_, ?_⟩
          · exact .tail _ (.tail _ (List.mem_append_right _ hp))
          · rcases List.mem_cons.mp hp with rfl | hp
            · exact .tail _ (.head _)
            · exact .tail _ (.tail _ (List.mem_append_left _ hp))
          · rcases List.mem_cons.mp hp with rfl | hp
            · exact hI2 (fa, o2) (.head _)
            · exact hI2 p (.tail _ hp)
          · rw [List.foldl_append]; simp only [List.foldl_cons, List.foldl_nil]; rw [hst]; exact hf8
          · have h1 := hf8.len; have h2 := hf2.len; have h3 : (delS (dn2.foldl (nsStep Tr) (dn.foldl (lineStep Tr) xmlPair)) R2.name).length ≤ _ := List.length_filter_le _ _; simp only [List.length_append, List.length_singleton]; omega
        · with_reducible rename (hasS _ _ = false) => hhas
          have hst : nsStep Tr (dn2.foldl (nsStep Tr) (dn.foldl (lineStep Tr) xmlPair)) y2 = dn2.foldl (nsStep Tr) (dn.foldl (lineStep Tr) xmlPair) := by
            rw [nsStep_eq hy2, if_pos hne', if_neg (by rw [hhas]; simp)]
          refine ⟨_, _, _, _, (fa, o2) :: own, rfl, F7, N7, fun p hp => ?_, fun p hp => ?_, fun p hp => ?_, o2, kvs2, rfl, rfl, rfl, rfl, hd2, ?_, ?_⟩
          · exact .tail _ (.tail _ (List.mem_append_right _ hp))
          · rcases List.mem_cons.mp hp with rfl | hp
            · exact .tail _ (.head _)
            · exact .tail _ (.tail _ (List.mem_append_left _ hp))
          · rcases List.mem_cons.mp hp with rfl | hp
            · exact hI2 (fa, o2) (.head _)
            · exact hI2 p (.tail _ hp)
          · rw [List.foldl_append]; simp only [List.foldl_cons, List.foldl_nil]; rw [hst]; exact hf2
          · simp only [List.length_append, List.length_singleton]; omega
    · rintro m₂ news₂ h₅ tk₅ ⟨o2, kvs2, hq1, hq2, hq3, rfl, hd2, hf2, hz2⟩ F5 N5
      have F6 := fr_look [(Str.ofString "tree", .ref ad.t), (Str.ofString "found", .ref fa), (Str.ofString "above", .int (y : Nat) t)] F5 (List.forall_mem_cons.mpr ⟨by first | rfl | assumption, List.forall_mem_cons.mpr ⟨by first | rfl | assumption, List.forall_mem_cons.mpr ⟨by first | rfl | assumption, List.forall_mem_nil _⟩⟩⟩)
      (try dsimp only); (try k_fold)
      (walk_at "mgo")
      refine ⟨_, _, _, (fa, o2) :: own, [(fa, o2)], rfl, F6, N5, fun p hp => .tail _ hp, fun p hp => ?_, fun p hp => ?_, fa, o2, kvs2, rfl, rfl, rfl, lo, hd2, ?_, ?_⟩
      · rw [List.mem_singleton.mp hp]; exact .head _
      · rw [List.mem_singleton.mp hp, dict_cls hd2]; decide
      · rw [List.foldl_append]; simp only [List.foldl_cons, List.foldl_nil, lineStep]; rw [rowOf_eq hy]; exact hf2
      · simp only [List.length_append, List.length_singleton]; omega
  · rintro m₁ news₁ h₃ tk₃ ⟨fa, o, kvs, hm1, hm2, rfl, lo, hd, hf, hz⟩ F3 N3
    have F4 := fr_look [(Str.ofString "tree", .ref ad.t), (Str.ofString "found", .ref fa)] F3 (List.forall_mem_cons.mpr ⟨by first | rfl | assumption, List.forall_mem_cons.mpr ⟨by first | rfl | assumption, List.forall_mem_nil _⟩⟩)
    clear F3
    (try dsimp only); (try k_fold)
    (walk_at "mgo")
    exact ret _ _ _ F4.keep ⟨o, kvs, newObj_of N3 (.head _), hd, hf, fun a e => by cases e; exact lo⟩
end
theorem topOff_lscope : True := by
  w_top off
  trivial
section
variable {prog : Program} {w : World} {loose : List Str} {mean : ExcName → Option Value} {mg mb : Str → Option Value}
local macro_rules | `(tactic| walk_at "newList") => `(tactic| ((with_reducible show wpAny _ _ (newList [_]) _ _ _); k_dflt (refine' new_list1 (by walk_at "q") (by walk_at "q") ?_); intro _ _ _ _ _))
theorem base_big {h : Heap} (X : (Mine.hd.heap_39 w.params).In h) : 106 < h.objs.size :=
  Heap.lt_size (X 106 { cls := .type "tuple", data := .seq #[.str (Str.ofString "root") 323, .str (Str.ofString "element") 324] } (by k_dflt k_is))
inductive JLs1 (Tr : List RowD) (ad : TAd) (l : List Nat) (h₁ : Heap) (oX : Obj) (L : Addr) (oc : Obj) (n : Nat) (m₁ : Str → Option Value) (news₁ : List (Addr × Obj)) : Prop
  | intro (la : Addr) (vs : List Value) (c : Nat) (j : Nat) (done r : List Nat) : (m₁ (Str.ofString "tree") = some (.ref ad.t)) → (m₁ (Str.ofString "line") = some (.ref la)) → (news₁ = [(la, listOf vs.toArray c), (h₁.objs.size, oX), (L + 1, oc)]) → (IntsAre vs (natInts (j :: done))) → (Up Tr j r) → (l = done.reverse ++ r) → (n = r.length) → JLs1 Tr ad l h₁ oX L oc n m₁ news₁
inductive JLs2 (prog : Program) (w : World) (Tr : List RowD) (ad : TAd) (h₁ : Heap) (L : Addr) (oc : Obj) (dn : List Nat) (x1 : List Nat) (m₂ : Str → Option Value) (news₂ : List (Addr × Obj)) : Prop
  | intro (o : Obj) (kvs : List (Str × Value)) : (m₂ (Str.ofString "tree") = some (.ref ad.t)) → (news₂ = [(h₁.objs.size, o), (L + 1, oc)]) → (o.IsDictOf (sk prog w) kvs) → (SP kvs (dn.foldl (lawLine Tr) xmlPair)) → (kvs.length ≤ 1 + 100 * dn.length) → JLs2 prog w Tr ad h₁ L oc dn x1 m₂ news₂
inductive JLs3 (prog : Program) (w : World) (Tr : List RowD) (ad : TAd) (h₁ : Heap) (L : Addr) (oc : Obj) (own : List (Addr × Obj)) (dn : List Nat) (done2 : List Nat) (x1 : List Nat) (m₃ : Str → Option Value) (news₃ : List (Addr × Obj)) : Prop
  | intro (o2 : Obj) (kvs2 : List (Str × Value)) : (m₃ (Str.ofString "tree") = some (.ref ad.t)) → (news₃ = (h₁.objs.size, o2) :: (L + 1, oc) :: own) → (o2.IsDictOf (sk prog w) kvs2) → (SP kvs2 (done2.foldl (lawNs Tr) (dn.foldl (lawLine Tr) xmlPair))) → (kvs2.length ≤ 1 + 100 * dn.length + done2.length) → JLs3 prog w Tr ad h₁ L oc own dn done2 x1 m₃ news₃
theorem law_scope_S (Tr : List RowD) (ad : TAd) (i : Nat) (l : List Nat) (tk : Tok) (hu : Up Tr i l) (hl : l.length ≤ 200) (hns : NssOk Tr) :
    Reads1 prog w loose mean mg mb 397 [.ref ad.t, .int (i : Nat) tk] 4 12 (fun h => TreeH h Tr ad) (fun h v h' => ∃ o kvs, NewObj h v h' o ∧ o.IsDictOf (sk prog w) kvs ∧ SP kvs (lawScopeD Tr l.reverse) ∧ ∀ a, v = .ref a → (a == sysModules) = false) := by
  intro A s Q E hA T X hT ret
  refine' enterC [(Str.ofString "tree", .ref ad.t), (Str.ofString "element", .int (i : Nat) tk)] X T ?k6 ?k7 ?k8 ?k9 ?kB ?kD ?_ ?c2 ?c3 ?c4
  (case k6 => k_dflt k_is); (case k7 => k_dflt k_is); (case k8 => with_reducible assumption); (case k9 => exact rfl); (case kB => exact rfl); (case kD => decide +kernel); (case c2 => exact rfl); (case c3 => exact rfl); (case c4 => exact rfl)
  intro L h₁ tk0 cells' F0 N Y' hA'
  have hY := CellsAre.one Y'; obtain ⟨oc1, hE', dc1⟩ := hY; subst hE'; clear Y'
  replace dc1 : oc1.data = .cell none := dc1
  have F := fr_look [(Str.ofString "tree", .ref ad.t), (Str.ofString "element", .int (i : Nat) tk)] F0 (List.forall_mem_cons.mpr ⟨by first | rfl | assumption, List.forall_mem_cons.mpr ⟨by first | rfl | assumption, List.forall_mem_nil _⟩⟩)
  clear F0
  (try dsimp only); (try k_fold)
  have hum := hu.mem
  have hlens := hT.lens
  (walk_at "mgo")
  rename_i hX0 oX loX hdX hfX apX lX hX1 oc dc la hX2 l2 hX3 F2 N2
  refine While_inv2 (J := JLs1 Tr ad l h₁ oX L oc) (n₀ := l.length) F2 N2
    ⟨la, [.int (i : Nat) tk], 0, i, [], l, rfl, rfl, rfl, .cons _ _ .nil, hu, rfl, rfl⟩ ?_ noE
  rintro n m₁ news₁ h₃ tk₃ F3 N3 ⟨lb, vs, c, j, done, r, hm1, hm2, rfl, hI, hj, hl2, hn⟩
  have F4 := fr_look [(Str.ofString "tree", .ref ad.t), (Str.ofString "line", .ref lb)] F3 (List.forall_mem_cons.mpr ⟨by first | rfl | assumption, List.forall_mem_cons.mpr ⟨by first | rfl | assumption, List.forall_mem_nil _⟩⟩)
  clear F3 F2 N2
  have hdl : done.length ≤ 200 := by
    have := congrArg List.length hl2
    rw [List.length_append, List.length_reverse] at this
    omega
  have hvl := hI.length
  rw [natInts_length] at hvl
  simp only [List.length_cons] at hvl
  have hnl := natInts_length (j :: done)
  simp only [List.length_cons] at hnl
  cases hI with
  | cons nj tj hI0 =>
  rename_i vs
  have hI : IntsAre (Value.int (j : Nat) tj :: vs) (natInts (j :: done)) := .cons _ _ hI0
  have hIs : True ∧ IntsAre (Value.int (j : Nat) tj :: vs) (natInts (j :: done)) := ⟨trivial, hI⟩
  obtain ⟨R, hR, hR2⟩ : ∃ R, Tr[j]? = some R ∧ ((R.parent = none ∧ r = [j]) ∨ ∃ j' l', R.parent = some j' ∧ r = j :: l' ∧ Up Tr j' l') := by
    cases hj with
    | top h1 h2 => exact ⟨_, h1, .inl ⟨h2, rfl⟩⟩
    | step h1 h2 h3 => exact ⟨_, h1, .inr ⟨_, _, h2, rfl, h3⟩⟩
  (try dsimp only); (try k_fold)
  (walk_at "mgo")
  (refine' Reads1.use (parent_S Tr ad j R _ hR) ?F9 ?N9 ?X9 ?T9 ?A9 ?p9 ?_; (case F9 => with_reducible assumption); (case N9 => with_reducible assumption); (case X9 => with_reducible assumption); (case T9 => with_reducible assumption); (case A9 => (walk_at "mA")); (case p9 => (walk_at "mT"))); intro v9 h9 tk9 F9 N9 e9 p9; skip; (try dsimp only)
  rcases hR2 with ⟨hq, hr⟩ | ⟨j', r', hq, hr, hu'⟩
  · rw [hq] at p9
    cases p9
    (walk_at "mgo")
    with_reducible rename Fr _ _ _ _ => F8
    have hline : j :: done = l.reverse := by rw [hl2, hr]; simp
    have hI := hIs.2
    rw [hline] at hI
    refine loop_listA (xs := l.reverse) (news := [(h₁.objs.size, oX), (L + 1, oc)]) (JLs2 prog w Tr ad h₁ L oc)
      hA'.hd (N9 _ (.head _)).1 hI (N9 _ (.head _)).2.1 F8 N9 (fun p hp => List.Mem.tail _ hp) ⟨oX, _, rfl, rfl, hdX, .cons _ _ _ .nil, by simp [strPairs]⟩ ?_ ?_
    · rintro dn y rest t m₂ news₂ h₅ tk₅ own I1 hsp ⟨o, kvs, hm1, rfl, hd, hf, hz⟩ hI1 hown F5 N5
      have F6 := fr_look [(Str.ofString "node", .int (y : Nat) t), (Str.ofString "tree", .ref ad.t)] F5 (List.forall_mem_cons.mpr ⟨by first | rfl | assumption, List.forall_mem_cons.mpr ⟨by first | rfl | assumption, List.forall_mem_nil _⟩⟩)
      clear F5
      obtain ⟨Ry, hy⟩ := hum y (by rw [← List.mem_reverse, hsp]; simp)
      have hly := hlens y Ry hy
      have hdl2 : dn.length ≤ 200 := by
        have := congrArg List.length hsp
        rw [List.length_reverse, List.length_append] at this
        omega
      (try dsimp only); (try k_fold)
      (walk_at "mgo")
      (refine' Reads1.useNew (namespaces_S Tr ad y Ry _ hy) ?F9 ?N9 ?X9 ?T9 ?A9 ?p9 ?_; (case F9 => with_reducible assumption); (case N9 => with_reducible assumption); (case X9 => with_reducible assumption); (case T9 => with_reducible assumption); (case A9 => (walk_at "mA")); (case p9 => (walk_at "mT"))); intro a9 o9 h9 tk9 F9 N9 ne9 e9 p9; obtain ⟨vn, cn, rfl, hIn⟩ := p9; (try dsimp only)
      have hD := N9 _ (List.Mem.head _)
      refine loop_listA (xs := Ry.nss) (news := (h₁.objs.size, o) :: (L + 1, oc) :: own) (JLs3 prog w Tr ad h₁ L oc own dn)
        hA'.hd hD.1 hIn hD.2.1 F9 N9 (fun p hp => List.Mem.tail _ hp) ⟨o, kvs, rfl, rfl, hd, hf, by simpa using hz⟩ ?_ ?_
      · rintro dn2 y2 rest2 t2 m₃ news₃ h₇ tk₇ own2 I2 hsp2 ⟨o2, kvs2, hq1, rfl, hd2, hf2, hz2⟩ hI2 hown2 F7 N7
        have hdn2 : dn2.length ≤ 100 := by
          have := congrArg List.length hsp2
          rw [List.length_append] at this
          omega
        have F8 := fr_look [(Str.ofString "told", .int (y2 : Nat) t2), (Str.ofString "tree", .ref ad.t)] F7 (List.forall_mem_cons.mpr ⟨by first | rfl | assumption, List.forall_mem_cons.mpr ⟨by first | rfl | assumption, List.forall_mem_nil _⟩⟩)
        clear F7
        obtain ⟨R2, hy2⟩ := hns y Ry hy y2 (by rw [hsp2]; simp)
        (try dsimp only); (try k_fold)
        (walk_at "mgo")
        (refine' Reads1.use (value_S Tr ad y2 R2 _ hy2) ?F9 ?N9 ?X9 ?T9 ?A9 ?p9 ?_; (case F9 => with_reducible assumption); (case N9 => with_reducible assumption); (case X9 => with_reducible assumption); (case T9 => with_reducible assumption); (case A9 => (walk_at "mA")); (case p9 => (walk_at "mT"))); intro v9 h9 tk9 F9 N9 e9 p9; obtain ⟨tv, rfl⟩ := p9; (try dsimp only)
        (walk_at "mgo")
        (refine' Reads1.use (name_S Tr ad y2 R2 _ hy2) ?F9 ?N9 ?X9 ?T9 ?A9 ?p9 ?_; (case F9 => with_reducible assumption); (case N9 => with_reducible assumption); (case X9 => with_reducible assumption); (case T9 => with_reducible assumption); (case A9 => (walk_at "mA")); (case p9 => (walk_at "mT"))); intro v9 h9 tk9 F9 N9 e9 p9; obtain ⟨tn, rfl⟩ := p9; (try dsimp only)
        (walk_at "mgo")
        have hst : lawNs Tr (dn2.foldl (lawNs Tr) (dn.foldl (lawLine Tr) xmlPair)) y2 = putS (dn2.foldl (lawNs Tr) (dn.foldl (lawLine Tr) xmlPair)) R2.name R2.value := lawNs_eq hy2
        have hap := own_ne (d := h₁.objs.size) (o := o2) (own := own ++ own2) N9 (fun p hp => .tail _ (.tail _ hp)) (.head _) (fun p hp => by
          rw [dict_cls hd2]
          rcases List.mem_append.mp hp with hp | hp
          · rcases hown p hp with h | h <;> rw [h] <;> decide
          · rcases hown2 p hp with h | h <;> rw [h] <;> decide)
        refine sd_set F9 N9 (.head (fun p hp => ?ap)) hd2 hf2 (by have := hf2.len; omega) ?_
        case ap =>
          rcases List.mem_cons.mp hp with rfl | hp
          · exact Nat.ne_of_lt lX
          · exact hap p hp
        intro h8 o8 kvs8 F8 N8 hd8 hf8
        (try dsimp only); (try k_fold)
        (walk_at "mgo")
        refine ⟨_, _, _, _, (h₁.objs.size, o8) :: (L + 1, oc) :: own, rfl, F8, N8, fun p hp => ?_, fun p hp => ?_, fun p hp => ?_, o8, kvs8, rfl, rfl, hd8, ?_, ?_⟩
        · exact .tail _ (.tail _ (List.mem_append_right _ hp))
        · rcases List.mem_cons.mp hp with rfl | hp
          · exact .head _
          rcases List.mem_cons.mp hp with rfl | hp
          · exact .tail _ (.head _)
          · exact .tail _ (.tail _ (List.mem_append_left _ hp))
        · rcases List.mem_cons.mp hp with rfl | hp
          · exact hI2 (h₁.objs.size, o2) (.head _)
          · exact hI2 p (.tail _ hp)
        · rw [List.foldl_append]; simp only [List.foldl_cons, List.foldl_nil]; rw [hst]; exact hf8
        · have h1 := hf8.len; have h2 := hf2.len; have h3 := putS_len (dn2.foldl (lawNs Tr) (dn.foldl (lawLine Tr) xmlPair)) R2.name R2.value; simp only [List.length_append, List.length_singleton]; omega
      · rintro m₃ news₃ h₇ tk₇ ⟨o2, kvs2, hq1, rfl, hd2, hf2, hz2⟩ F7 N7
        have F8 := fr_look [(Str.ofString "tree", .ref ad.t)] F7 (List.forall_mem_cons.mpr ⟨by first | rfl | assumption, List.forall_mem_nil _⟩)
        clear F7
        (try dsimp only); (try k_fold)
        (walk_at "mgo")
        refine ⟨_, _, _, _, [(h₁.objs.size, o2), (L + 1, oc)], rfl, F8, N7, fun p hp => .tail _ (.tail _ hp), fun p hp => ?_, fun p hp => ?_, o2, kvs2, rfl, rfl, hd2, ?_, ?_⟩
        · rcases List.mem_cons.mp hp with rfl | hp
          · exact .head _
          · rw [List.mem_singleton.mp hp]; exact .tail _ (.head _)
        · rcases List.mem_cons.mp hp with rfl | hp
          · exact hI1 (h₁.objs.size, o) (.head _)
          · exact hI1 p (.tail _ hp)
        · rw [List.foldl_append]; simp only [List.foldl_cons, List.foldl_nil, lawLine]; rw [rowOf_eq hy]; exact hf2
        · simp only [List.length_append, List.length_singleton]; omega
    · rintro m₂ news₂ h₅ tk₅ ⟨o, kvs, hm1, rfl, hd, hf, hz⟩ F5 N5
      have F6 := fr_look [(Str.ofString "tree", .ref ad.t)] F5 (List.forall_mem_cons.mpr ⟨by first | rfl | assumption, List.forall_mem_nil _⟩)
      clear F5
      (try dsimp only); (try k_fold)
      (walk_at "mgo")
      refine ListComp_D F6 (by with_unfolding_all rfl) (by decide) (by rfl) (by decide) (by rfl) ?_
      refine ldCN N5 rfl (.tail _ (.head _)) dc ?_
      refine DkSrc.mk hA'.hd F6 N5 (.head _) hd loX hf (by have := hf.len; rw [List.length_reverse] at hz; omega) (fun dn ys nw => ∃ tups, nw = (h₁.objs.size, o) :: (L + 1, oc) :: tups ∧ TuL tups ys (notNil dn)) ⟨[], rfl, .nil⟩ ?_ ?_
      · rintro dn p u rest ys nw t I oI C oC B m₃ h₇ tk₇ E' hx ⟨tups, rfl, htu⟩ hC hm F7 N7 off ne
        have hsz : ∀ q ∈ (I, oI) :: (C, oC) :: (B, LCg.lst ys) :: (h₁.objs.size, o) :: (L + 1, oc) :: tups, q.1 ≠ h₇.objs.size := fun q hq => Nat.ne_of_lt (Heap.lt_size (N7 q hq).1)
        have hgu := getS_at hx (dict_nodup hd hf)
        (try dsimp only)
        (walk_at "mgo")
        refine sd_item (N7.get (.tail _ (.tail _ (.tail _ (.head _))))) hd hf hgu fun tu => ?_
        (try dsimp only); (try k_fold)
        (walk_at "mgo")
        · refine sd_item (N7.get (.tail _ (.tail _ (.tail _ (.head _))))) hd hf hgu fun tu => ?_
          (try dsimp only); (try k_fold)
          (walk_at "mgo")
          with_reducible rename Fr _ _ _ _ => F8
          with_reducible rename News _ _ _ _ => N8
          with_reducible rename ((_ != _) = true) => hnn
          have hnn' : u ≠ Str.ofString "" := by simpa using hnn
          refine LCg.CompEnd.intro F8 N8 ((h₁.objs.size, o) :: (L + 1, oc) :: (h₇.objs.size, tupObj [.str p t, .str u tu]) :: tups) (fun q hq => ?_) ?_ (.head _) ⟨(h₇.objs.size, tupObj [.str p t, .str u tu]) :: tups, rfl, ?_⟩
          · rcases List.mem_cons.mp hq with rfl | hq
            · exact .tail _ (.head _)
            rcases List.mem_cons.mp hq with rfl | hq
            · exact .tail _ (.tail _ (.head _))
            rcases List.mem_cons.mp hq with rfl | hq
            · exact .tail _ (.tail _ (.tail _ (.head _)))
            rcases List.mem_cons.mp hq with rfl | hq
            · exact .tail _ (.tail _ (.tail _ (.tail _ (.head _))))
            rcases List.mem_cons.mp hq with rfl | hq
            · exact .tail _ (.tail _ (.tail _ (.tail _ (.tail _ (.head _)))))
            rcases List.mem_cons.mp hq with rfl | hq
            · exact .head _
            · exact .tail _ (.tail _ (.tail _ (.tail _ (.tail _ (.tail _ hq)))))
          · exact ⟨off.1, off.2.1, ⟨Ne.symm (hsz (I, oI) (.head _)), Ne.symm (hsz (C, oC) (.tail _ (.head _))), Ne.symm (hsz (B, LCg.lst ys) (.tail _ (.tail _ (.head _))))⟩, off.2.2⟩
          · rw [notNil_snoc, if_neg hnn']
            exact (htu.mono (fun q hq => .tail _ hq)).snoc (.head _)
        · with_reducible rename ((_ != _) = false) => hnn
          have hnn' : u = Str.ofString "" := by simpa using hnn
          refine LCg.CompEnd.intro F7 N7 ((h₁.objs.size, o) :: (L + 1, oc) :: tups) (fun q hq => hq) off (.head _) ⟨tups, rfl, ?_⟩
          rw [notNil_snoc, if_pos hnn', List.append_nil]
          exact htu
      · rintro ys nw B h₇ tk₇ ⟨tups, rfl, htu⟩ F7 N7 off
        (try dsimp only)
        (walk_at "mgo")
        have hlr : (notNil (lawRaw Tr l.reverse)).length ≤ 100000 := by
          have h1 : (notNil (lawRaw Tr l.reverse)).length ≤ (lawRaw Tr l.reverse).length := List.length_filter_le _ _
          have h2 := hf.len
          rw [List.length_reverse] at hz
          have h3 : (lawRaw Tr l.reverse).length = kvs.length := h2.symm
          omega
        refine dict_pairs (D := notNil (lawRaw Tr l.reverse)) hA'.hd F7 N7 (N7.get (.head _)) ((htu.mono (fun p hp => .tail _ (.tail _ (.tail _ hp)))).tus N7) hlr ?_
        intro d9 h9 tk9 o9 kvs9 F9 N9 hne9 hL9 hd9 hf9
        repeat walk_at "gq"
        exact ret _ _ _ F9.keep ⟨o9, kvs9, newObj_of N9 (.head _), hd9, hf9, fun a e => by
          cases e
          have h1 := base_big X
          have h2 : s.heap.objs.size ≤ L := F9.above
          have h3 : @LT.lt Nat _ L d9 := hL9
          exact beq_eq_false_iff_ne.mpr (show @Ne Nat d9 1 by omega)⟩
  · rw [hq] at p9
    obtain ⟨tp, rfl⟩ := p9
    (walk_at "mgo")
    (refine' Reads1.use (parent_S Tr ad j R _ hR) ?F9 ?N9 ?X9 ?T9 ?A9 ?p9 ?_; (case F9 => with_reducible assumption); (case N9 => with_reducible assumption); (case X9 => with_reducible assumption); (case T9 => with_reducible assumption); (case A9 => (walk_at "mA")); (case p9 => (walk_at "mT"))); intro v9 h9 tk9 F9 N9 e9 p9; skip; (try dsimp only)
    rw [hq] at p9
    obtain ⟨tp2, rfl⟩ := p9
    have hI1 : IntsAre [Value.int (j' : Nat) tp2] (natInts [j']) := .cons _ _ .nil
    (walk_at "mgo")
    with_reducible rename Fr _ _ _ _ => F5
    with_reducible rename News _ _ _ _ => N5
    with_reducible rename IntsAre _ _ => hI5
    refine ⟨_, _, _, _, r'.length, rfl, F5, news_sel N5, by rw [hn, hr]; simp, ?_⟩
    exact ⟨_, _, 0, j', j :: done, r', rfl, rfl, rfl, hI5, hu', by rw [hl2, hr]; simp, rfl⟩
end
section
set_option hygiene true in
local macro_rules | `(tactic| walk_at "getMethod ref") => `(tactic| ((with_reducible first | (show wpAny _ _ (getMethod (Value.ref (Plc.c _)) _ _) _ _ _) | (show wpAny _ _ (getMethod (Value.ref (Plc.a _)) _ _) _ _ _) | (show wpAny _ _ (getMethod (Value.ref (Plc.n _)) _ _) _ _ _)); (first | refine' m_ints ?l PySem.F.slot_list_append PySem.F.type_list_append ?_ | refine' m_ints ?l PySem.F.slot_list_insert PySem.F.type_list_insert ?_ | refine' m_ints ?l PySem.F.slot_list_remove PySem.F.type_list_remove ?_); (case l => walk_at "mL")))
local macro_rules | `(tactic| walk_at "compareOp NotIn str ref") => `(tactic| ((with_reducible show wpAny _ _ (compareOp _ (Value.str _ _) (Value.ref 106)) _ _ _); (k_dflt (refine' notin_par (by walk_at "q") (by walk_at "q") ?_; k_whole))))
local macro_rules | `(tactic| walk_at "compareOp NotIn str ref") => `(tactic| ((with_reducible show wpAny _ _ (compareOp _ (Value.str _ _) (Value.ref 107)) _ _ _); (k_dflt (refine' notin_chi (by walk_at "q") (by walk_at "q") (by walk_at "q") ?_; k_whole))))
theorem topOff_noderow : True := by
  w_top off
  trivial
section
variable {prog : Program} {w : World} {loose : List Str} {mean : ExcName → Option Value} {mg mb : Str → Option Value}
theorem node_row_N {A : Around} {s : Shared} {Q E : Value → Shared → Prop} {h₀ : Heap} {L : Addr} {m : Str → Option Value} {news : List (Addr × Obj)} (R : RowD) (t1 t2 t3 t4 t5 : Tok) (pv : Value) (hpv : ParV pv R.parent) (hk : R.kids = []) (ha : R.atts = []) (hn : R.nss = [])
    (F : Fr h₀ L s.heap m) (N : News h₀ L s.heap news) (X : (Mine.hd.heap_39 w.params).In h₀) (T : Top topProg loose mean mg mb h₀) (hA : AOk A 3 8)
    (k : ∀ p h' tk', Fr h₀ L h' m → News h₀ L h' news → RowAt h'.get? R p → (∀ a ∈ p.all, h₀.get? a = none ∧ a ≠ L ∧ ∀ q ∈ news, q.1 ≠ a) → p.all.Nodup → Q (.ref p.r) { s with heap := h', toks := tk' }) :
    wpAny (model prog w) A (call (.ref 124) [.str R.kind t1, .str R.name t2, .str R.uri t3, .str R.loc t4, .str R.value t5, pv]) Q E s := by
  refine' call_cls F X N ?k4 ?k5 ?k6 ?_
  (case k4 => k_dflt k_is); (case k5 => k_dflt k_is); (case k6 => k_dflt k_is)
  intro x dx h₁ F1 N1 l1 l2
  have X1 := X.keeps F1.keep
  have T1 := T.keeps F1.keep
  refine' enterKc [(Str.ofString "self", .ref x), (Str.ofString "kind", .str R.kind t1), (Str.ofString "name", .str R.name t2), (Str.ofString "uri", .str R.uri t3), (Str.ofString "local", .str R.loc t4), (Str.ofString "value", .str R.value t5), (Str.ofString "parent", pv)] X1 T1 ?k6 ?k7 (d := 1) (u := 4) ?k8 ?k9 ?kB ?_ ?c2 ?c3 ?c4 ?c5
  (case k8 => exact hA.make)
  (case k6 => k_dflt k_is); (case k7 => k_dflt k_is); (case k9 => exact rfl); (case kB => exact rfl); (case c5 => decide); (case c2 => exact rfl); (case c3 => exact rfl); (case c4 => exact rfl)
  intro L2 h₂ F0 N0 hA'
  have hx1 := (N1 _ (.head _)).1
  have hoff1 : OffB h₀ L [x, dx] := fun a ha => by simp at ha; rcases ha with rfl | rfl; exact ⟨(N1 _ (.head _)).2.2, (N1 _ (.head _)).2.1⟩; exact ⟨(N1 _ (.tail _ (.head _))).2.2, (N1 _ (.tail _ (.head _))).2.1⟩
  have hnn : ∀ p ∈ news, p.1 ∉ [x, dx] := fun p hp q => by
    simp at q
    rcases q with q | q
    · exact Nat.ne_of_lt (Nat.lt_trans (l1 p hp) l2) q
    · exact Nat.ne_of_lt (l1 p hp) q
  have hdx1 := (N1 _ (.tail _ (.head _))).1
  have hoff := hid_off (foot := [x, dx]) F0 (fun a ha => by simp at ha; rcases ha with rfl | rfl; exact ⟨_, hx1⟩; exact ⟨_, hdx1⟩)
  have F2 : Fr (hideAll h₁ [x, dx]) L2 h₂ _ := hid_fr (foot := [x, dx]) F0
  have N2 : News (hideAll h₁ [x, dx]) L2 h₂ [(x, instObj 124 dx), (dx, dictOf [] 0)] := off_news (off_news (hid_news (foot := [x, dx]) N0) hoff (.tail _ (.head _)) (F0.keep _ _ hdx1)) hoff (.head _) (F0.keep _ _ hx1)
  have X2 : (Mine.hd.heap_39 w.params).In (hideAll h₁ [x, dx]) := X.keeps (base_hid F1 (fun a ha => by simp at ha; rcases ha with rfl | rfl; exact ⟨(N1 _ (.head _)).2.2, (N1 _ (.head _)).2.1⟩; exact ⟨(N1 _ (.tail _ (.head _))).2.2, (N1 _ (.tail _ (.head _))).2.1⟩))
  clear X1 T1 F0 N0
  k_lt2 l2
  (try dsimp only); (try k_fold)
  (walk_at "mgo")
  rename_i lc hA1 c1 h6 la hB c2 h7 ln h8 c3 h9 F5 N5
  have hmod : Mod [x, dx] h₁ h9 := fun b o e q => F5.keep b o (hideAll_get _ e q)
  refine ⟨rfl, k ⟨x, dx, lc, la, ln⟩ h9 _ (fr_mod F1 hmod hoff1) (news_mod (fun p hp => N1 p (.tail _ (.tail _ hp))) hmod hnn) ⟨N5.get (.tail _ (.tail _ (.tail _ (.head _)))), ⟨_, _, N5.get (.tail _ (.tail _ (.tail _ (.tail _ (.head _))))), ?_⟩, ⟨[], 0, N5.get (.tail _ (.tail _ (.head _))), by rw [hk]; exact .nil⟩, ⟨[], 0, N5.get (.tail _ (.head _)), by rw [ha]; exact .nil⟩, ⟨[], 0, N5.get (.head _), by rw [hn]; exact .nil⟩⟩ ?_ ?_⟩
  · exact ⟨⟨_, rfl⟩, ⟨_, rfl⟩, ⟨_, rfl⟩, ⟨_, rfl⟩, ⟨_, rfl⟩, ⟨pv, hpv, rfl⟩, rfl, rfl, rfl, rfl⟩
  · have fresh : ∀ (a : Addr) (o : Obj), (a, o) ∈ [(ln, listOf #[] 0), (la, listOf #[] 0), (lc, listOf #[] 0)] → a ≠ x → a ≠ dx → h₀.get? a = none ∧ a ≠ L ∧ ∀ q ∈ news, q.1 ≠ a := by
      intro a o hm hax had
      have hno : ∀ b o', h₁.get? b = some o' → b ≠ a := fun b o' e q => by
        subst q
        have h1 : (hideAll h₁ [x, dx]).get? b = some o' := hideAll_get _ e (by simp; exact ⟨hax, had⟩)
        have h2 := (N5 (b, o) (List.mem_append_left (as := [(ln, listOf #[] 0), (la, listOf #[] 0), (lc, listOf #[] 0)]) _ hm)).2.2
        rw [h2] at h1; cases h1
      refine ⟨?_, fun q => ?_, fun q hq => ?_⟩
      · cases hq : h₀.get? a with
        | none => rfl
        | some o' => exact absurd rfl (hno _ _ (F1.keep _ _ hq))
      · obtain ⟨oL, _, _, hL, _⟩ := F1.ns
        exact hno _ _ hL q.symm
      · exact hno _ _ (N1 q (.tail _ (.tail _ hq))).1
    intro a hma
    simp only [Plc.all, List.mem_cons, List.not_mem_nil, or_false] at hma
    rcases hma with rfl | rfl | rfl | rfl | rfl
    · exact ⟨(N1 _ (.head _)).2.2, (N1 _ (.head _)).2.1, fun q hq => Nat.ne_of_lt (Nat.lt_trans (l1 q hq) l2)⟩
    · exact ⟨(N1 _ (.tail _ (.head _))).2.2, (N1 _ (.tail _ (.head _))).2.1, fun q hq => Nat.ne_of_lt (l1 q hq)⟩
    · exact fresh _ _ (.tail _ (.tail _ (.head _))) (Nat.ne_of_gt c1.1) (Nat.ne_of_gt c1.2)
    · exact fresh _ _ (.tail _ (.head _)) (Nat.ne_of_gt c2.2.1) (Nat.ne_of_gt c2.2.2)
    · exact fresh _ _ (.head _) (Nat.ne_of_gt c3.2.2.1) (Nat.ne_of_gt c3.2.2.2)
  · have n1 := Nat.ne_of_gt l2
    simp only [Plc.all, List.nodup_cons, List.mem_cons, List.not_mem_nil, or_false, not_or, not_false_eq_true, List.nodup_nil, and_true]
    exact ⟨⟨n1, Nat.ne_of_lt c1.1, Nat.ne_of_lt c2.2.1, Nat.ne_of_lt c3.2.2.1⟩, ⟨Nat.ne_of_lt c1.2, Nat.ne_of_lt c2.2.2, Nat.ne_of_lt c3.2.2.2⟩, ⟨Nat.ne_of_lt c2.1, Nat.ne_of_lt c3.2.1⟩, Nat.ne_of_lt c3.1⟩
end
theorem topOff_newrow : True := by
  w_top off
  trivial
section
variable {prog : Program} {w : World} {loose : List Str} {mean : ExcName → Option Value} {mg mb : Str → Option Value}
local macro_rules | `(tactic| walk_at "getAttr ref") => `(tactic| ((with_reducible show wpAny _ _ (getAttr (Value.ref (TAd.t _)) (PySem.Str.ofString "rows") _) _ _ _); (refine' g_rowsH (by (walk_at "mX")) (by first | walk_at "q" | exact TreeHd.ext (by walk_at "q") (Fr.keep (by walk_at "q"))) ?_; k_whole)))
def rowsObj (ps : List Plc) (n : Nat) : Obj := listOf (ps.map fun p => Value.ref p.r).toArray n
theorem new_row_S (Tr : List RowD) (ad : TAd) (R : RowD) (t1 t2 t3 t4 t5 : Tok) (pv : Value) (hpv : ParV pv R.parent) (hk : R.kids = []) (ha : R.atts = []) (hn : R.nss = []) (hz : Tr.length ≤ 60) :
    Muts prog w loose mean mg mb 149 [.ref ad.t, .str R.kind t1, .str R.name t2, .str R.uri t3, .str R.loc t4, .str R.value t5, pv] 4 12 [ad.rl] (fun h => TreeH h Tr ad)
      (fun h v h' => ∃ t p, v = .int (Tr.length : Nat) t ∧ TreeH h' (Tr ++ [R]) { ad with ps := ad.ps ++ [p] } ∧ ∀ a ∈ p.all, h.get? a = none) := by
  intro A s Q E hA T X hT ret
  obtain ⟨nr, hrl⟩ := hT.rows
  have X0 := X.keeps (hideAll_ext [ad.rl] s.heap)
  have T0 := T.keeps (hideAll_ext [ad.rl] s.heap)
  refine' enterK [(Str.ofString "self", .ref ad.t), (Str.ofString "kind", .str R.kind t1), (Str.ofString "name", .str R.name t2), (Str.ofString "uri", .str R.uri t3), (Str.ofString "local", .str R.loc t4), (Str.ofString "value", .str R.value t5), (Str.ofString "parent", pv)] X0 T0 ?k6 ?k7 ?k8 ?k9 ?kB ?_ ?c2 ?c3 ?c4 ?c5
  (case k6 => k_dflt k_is); (case k7 => k_dflt k_is); (case k8 => with_reducible assumption); (case k9 => exact rfl); (case kB => exact rfl); (case c5 => decide); (case c2 => exact rfl); (case c3 => exact rfl); (case c4 => exact rfl)
  intro L h₁ F0 N0 hA'
  have hoff := hid_off (foot := [ad.rl]) F0 (fun a ha => by rw [List.mem_singleton.mp ha]; exact ⟨_, hrl⟩)
  have F := hid_fr (foot := [ad.rl]) F0
  have N : News (hideAll s.heap [ad.rl]) L h₁ [(ad.rl, rowsObj ad.ps nr)] := off_news (hid_news (foot := [ad.rl]) N0) hoff (.head _) (F0.keep _ _ hrl)
  have hne := TAd.t_ne hT.nodup
  have hTh : TreeHd (hideAll s.heap [ad.rl]).get? ad := hT.head.hide (by simp [hne.2.1]) (by simp [hne.2.2])
  clear N0 F0 X0 T0
  (try dsimp only); (try k_fold)
  (walk_at "mgo")
  refine node_row_N R _ _ _ _ _ pv hpv hk ha hn (by with_reducible assumption) N X T (hA'.le (by omega) (by omega)) ?_
  intro p h5 tk5 F5 N5 hRp hpf hpn
  (try dsimp only); (try k_fold)
  (walk_at "mgo")
  have hlive := hRp.live
  have N6 : News (hideAll s.heap [ad.rl]) L h5 ((ad.rl, rowsObj ad.ps nr) :: objsAt h5 p.all) := fun q hq => by
    rcases List.mem_cons.mp hq with rfl | hq
    · exact N5 _ (.head _)
    · exact objsAt_news hlive (fun a ha => ⟨(hpf a ha).1, (hpf a ha).2.1⟩) q hq
  have hps := hT.len
  refine append_K F5 N6 (.head (fun q hq => ?ap)) ?_ (by rw [sizeLine_eq]; simp; omega)
  case ap =>
    obtain ⟨a, ha, rfl⟩ := List.mem_map.mp hq
    exact Ne.symm ((hpf a ha).2.2 _ (.head _))
  intro h6 F6 N6'
  (try dsimp only); (try k_fold)
  (walk_at "mgo")
  with_reducible rename News _ _ _ _ => N7
  refine len_list_at (N7.get (.head _)) (by simp; omega) fun t => ?_
  (try dsimp only); (try k_fold)
  (walk_at "mgo")
  have hlen : (((ad.ps.map fun p => Value.ref p.r) ++ [Value.ref p.r]).length : Int) - 1 = ((Tr.length : Nat) : Int) := by simp [hps]
  rw [hlen]
  have hpa : ∀ a ∈ p.all, a ∉ ad.all := fun a hpa' haa => by
    obtain ⟨o, ho⟩ := hT.live a haa
    have h0 := (hpf a hpa').1
    by_cases har : a = ad.rl
    · exact (hpf a hpa').2.2 _ (.head _) har.symm
    · rw [hideAll_get [ad.rl] ho (by simpa using har)] at h0; cases h0
  refine ret _ _ _ (ret_mod F6) ⟨_, p, rfl, ?_, fun a ha' => ?_⟩
  · refine hT.push (fun a haa har => ?_) (N7.get (.head _)) (hRp.congr (objsAt_get N7 (fun q hq => .tail _ hq) hlive)) hpn hpa (by omega) (by rw [hk, ha, hn]; simp)
    obtain ⟨o, ho⟩ := hT.live a haa
    rw [ho]
    exact F6.keep _ _ (hideAll_get _ ho (by simpa using har))
  · cases hq : s.heap.get? a with
    | none => rfl
    | some o =>
      have h0 := (hpf a ha').1
      by_cases har : a = ad.rl
      · exact absurd har.symm ((hpf a ha').2.2 _ (.head _))
      · rw [hideAll_get [ad.rl] hq (by simpa using har)] at h0; cases h0
end
theorem topOff_newroot : True := by
  w_top off
  trivial
section
variable {prog : Program} {w : World} {loose : List Str} {mean : ExcName → Option Value} {mg mb : Str → Option Value}
theorem treeAt_rl {h : Heap} {T : List RowD} {ad : TAd} (x : TreeH h T ad) : ∃ o, h.get? ad.rl = some o := by obtain ⟨n, hn⟩ := x.rows; exact ⟨_, hn⟩
def rootRow : RowD := ⟨Str.ofString "root", Str.ofString "", Str.ofString "", Str.ofString "", Str.ofString "", none, [], [], []⟩
theorem new_root_S (Tr : List RowD) (ad : TAd) (hz : Tr.length ≤ 60) :
    Muts prog w loose mean mg mb 163 [.ref ad.t] 5 15 [ad.rl] (fun h => TreeH h Tr ad)
      (fun h v h' => ∃ t p, v = .int (Tr.length : Nat) t ∧ TreeH h' (Tr ++ [rootRow]) { ad with ps := ad.ps ++ [p] } ∧ ∀ a ∈ p.all, h.get? a = none) := by
  intro A s Q E hA T X hT ret
  obtain ⟨nr, hrl⟩ := hT.rows
  refine' enterK [(Str.ofString "self", .ref ad.t)] (X.keeps (hideAll_ext [ad.rl] s.heap)) (T.keeps (hideAll_ext [ad.rl] s.heap)) ?k6 ?k7 ?k8 ?k9 ?kB ?_ ?c2 ?c3 ?c4 ?c5
  (case k6 => k_dflt k_is); (case k7 => k_dflt k_is); (case k8 => with_reducible assumption); (case k9 => exact rfl); (case kB => exact rfl); (case c5 => decide); (case c2 => exact rfl); (case c3 => exact rfl); (case c4 => exact rfl)
  intro L h₁ F0 N0 hA'
  have hoff := hid_off (foot := [ad.rl]) F0 (fun a ha => by rw [List.mem_singleton.mp ha]; exact ⟨_, hrl⟩)
  have F : Fr (hideAll s.heap [ad.rl]) L h₁ _ := hid_fr (foot := [ad.rl]) F0
  have hTn := hT.ext F0.keep
  have hTh : TreeHd (hideAll s.heap [ad.rl]).get? ad := hT.head.hide (by simp [(TAd.t_ne hT.nodup).2.1]) (by simp [(TAd.t_ne hT.nodup).2.2])
  have N : News (hideAll s.heap [ad.rl]) L h₁ [] := News.nil
  clear F0 N0
  (try dsimp only); (try k_fold)
  (walk_at "mgo")
  refine (new_row_S Tr ad rootRow _ _ _ _ _ .none rfl rfl rfl rfl hz).use F N X T hoff (fun q hq => by cases hq) (hA'.le (by omega) (by omega)) hTn fun v h5 tk5 F5 N5 hmod hpost => ?_
  obtain ⟨t, p, rfl, h1, h2⟩ := hpost
  repeat walk_at "gq"
  refine ret _ _ _ (ret_mod F5) ⟨t, p, rfl, h1, fun a ha => ?_⟩
  cases hq : s.heap.get? a with
  | none => rfl
  | some o =>
    have := h2 a ha
    by_cases har : a = ad.rl
    · obtain ⟨o', ho'⟩ := treeAt_rl hTn
      rw [har, ho'] at this; cases this
    · rw [F.keep _ _ (hideAll_get [ad.rl] hq (by simpa using har))] at this; cases this
end
theorem topOff_mut : True := by
  w_top off
  trivial
section
variable {prog : Program} {w : World} {loose : List Str} {mean : ExcName → Option Value} {mg mb : Str → Option Value}
theorem new_row_T (Tr : List RowD) (ad : TAd) (R : RowD) (t1 t2 t3 t4 t5 : Tok) (pv : Value) (hpv : ParV pv R.parent) (hk : R.kids = []) (ha : R.atts = []) (hn : R.nss = []) (hz : Tr.length ≤ 60) :
    MutT prog w loose mean mg mb 149 [.ref ad.t, .str R.kind t1, .str R.name t2, .str R.uri t3, .str R.loc t4, .str R.value t5, pv] 4 12 Tr ad (fun v T' => ∃ t, v = .int (Tr.length : Nat) t ∧ T' = Tr ++ [R]) :=
  (new_row_S Tr ad R t1 t2 t3 t4 t5 pv hpv hk ha hn hz).mono (fun a h => by rw [List.mem_singleton.mp h]; exact .tail _ (.tail _ (.head _))) fun h v h' hT ⟨t, p, h1, h2, h3⟩ =>
    ⟨_, _, h2, rfl, fun a ha => by
      rw [all_push] at ha
      rcases List.mem_append.mp ha with q | q
      · exact .inl q
      · exact .inr (h3 a q), fun i p hp => by rw [List.getElem?_append_left (List.getElem?_eq_some_iff.mp hp).1]; exact hp, t, h1, rfl⟩
theorem new_root_T (Tr : List RowD) (ad : TAd) (hz : Tr.length ≤ 60) :
    MutT prog w loose mean mg mb 163 [.ref ad.t] 5 15 Tr ad (fun v T' => ∃ t, v = .int (Tr.length : Nat) t ∧ T' = Tr ++ [rootRow]) :=
  (new_root_S Tr ad hz).mono (fun a h => by rw [List.mem_singleton.mp h]; exact .tail _ (.tail _ (.head _))) fun h v h' hT ⟨t, p, h1, h2, h3⟩ =>
    ⟨_, _, h2, rfl, fun a ha => by
      rw [all_push] at ha
      rcases List.mem_append.mp ha with q | q
      · exact .inl q
      · exact .inr (h3 a q), fun i p hp => by rw [List.getElem?_append_left (List.getElem?_eq_some_iff.mp hp).1]; exact hp, t, h1, rfl⟩
theorem add_child_T (Tr : List RowD) (ad : TAd) (i : Nat) (Rp R : RowD) (t0 t1 t2 t3 t4 t5 : Tok) (hi : Tr[i]? = some Rp) (hpar : isPar Rp.kind = true) (hR : R.parent = some i) (hk : R.kids = []) (ha : R.atts = []) (hn : R.nss = []) (hz : Tr.length ≤ 60) (hl : Rp.kids.length + 1 ≤ 100) :
    MutT prog w loose mean mg mb 170 [.ref ad.t, .int (i : Nat) t0, .str R.kind t1, .str R.name t2, .str R.uri t3, .str R.loc t4, .str R.value t5] 5 15 Tr ad
      (fun v T' => ∃ t, v = .int (Tr.length : Nat) t ∧ T' = (Tr ++ [R]).set i { Rp with kids := Rp.kids ++ [Tr.length] }) := by
  intro A s Q E hA T X hT ret
  refine' enterK [(Str.ofString "self", .ref ad.t), (Str.ofString "parent", .int (i : Nat) t0), (Str.ofString "kind", .str R.kind t1), (Str.ofString "name", .str R.name t2), (Str.ofString "uri", .str R.uri t3), (Str.ofString "local", .str R.loc t4), (Str.ofString "value", .str R.value t5)] (X.keeps (hideAll_ext ad.all s.heap)) (T.keeps (hideAll_ext ad.all s.heap)) ?k6 ?k7 ?k8 ?k9 ?kB ?_ ?c2 ?c3 ?c4 ?c5
  (case k6 => k_dflt k_is); (case k7 => k_dflt k_is); (case k8 => with_reducible assumption); (case k9 => exact rfl); (case kB => exact rfl); (case c5 => decide); (case c2 => exact rfl); (case c3 => exact rfl); (case c4 => exact rfl)
  intro L h₁ F0 N0 hA'
  obtain ⟨F, hoff, hT1⟩ := tree_in hT F0
  have N : News (hideAll s.heap ad.all) L h₁ [] := News.nil
  obtain ⟨pl, hp, hRp⟩ := hT1.row_of hi
  have hlt := (List.getElem?_eq_some_iff.mp hi).1
  clear F0 N0
  (try dsimp only); (try k_fold)
  (walk_at "mgo")
  (refine' Reads1.use (row_S Tr ad i pl _ hp hlt) ?F9 ?N9 ?X9 ?T9 ?A9 ?p9 ?_; (case F9 => with_reducible assumption); (case N9 => with_reducible assumption); (case X9 => with_reducible assumption); (case T9 => with_reducible assumption); (case A9 => (walk_at "mA")); (case p9 => (walk_at "mT"))); intro v9 h9 tk9 F9 N9 e9 p9; subst p9; (try dsimp only)
  have hT2 := hT1.ext e9
  have hR2 := hRp.ext e9
  clear hT1 hRp F N e9
  (walk_at "mgo")
  refine (new_row_T Tr ad R _ _ _ _ _ (.int (i : Nat) t0) (by rw [hR]; exact ⟨_, rfl⟩) hk ha hn hz).useT F9 N9 X T hoff (List.forall_mem_nil _) (hA'.le (by omega) (by omega)) hT2 fun v T' ad' h' tk' F2 N2 hoff2 hn2 hT3 e2 hg2 hps2 p2 => ?_
  obtain ⟨t, rfl, rfl⟩ := p2
  have hg3 := tree_fresh hT F9 hg2
  clear F9 N9 hT2 hR2 hp hg2
  generalize hq9 : ad.t = t9 at e2 F2 ⊢
  subst e2
  have hi' : (Tr ++ [R])[i]? = some Rp := by rw [List.getElem?_append_left hlt]; exact hi
  obtain ⟨p2, hp2, _⟩ := hT3.row_of hi'
  replace N2 := tree_led0 hT3 hoff2
  (walk_at "mgo")
  with_reducible rename Fr _ _ _ _ => F3
  with_reducible rename News _ _ _ _ => N3
  refine t_app_kids (news := []) F3 News.nil hoff2 (List.forall_mem_nil _) (tree_now hT3 N3 (fun _ h => h)) hi' hp2 hl (fun h5 F5 N5 hT5 => ?_)
  (try dsimp only); (try k_fold)
  (walk_at "mgo")
  repeat walk_at "gq"
  exact ret _ _ _ (ret_mod F5) ⟨_, ad', hT5, hq9.symm, hg3, hps2, _, rfl, rfl⟩
end
theorem topOff_mut2 : True := by
  w_top off
  trivial
section
variable {prog : Program} {w : World} {loose : List Str} {mean : ExcName → Option Value} {mg mb : Str → Option Value}
def newRow (kind name uri loc value : Str) (par : Option Nat) : RowD := ⟨kind, name, uri, loc, value, par, [], [], []⟩
theorem add_element_T (Tr : List RowD) (ad : TAd) (i : Nat) (Rp : RowD) (t0 t2 t3 t4 : Tok) (name uri loc : Str) (hi : Tr[i]? = some Rp) (hpar : isPar Rp.kind = true) (hz : Tr.length ≤ 60) (hl : Rp.kids.length + 1 ≤ 100) :
    MutT prog w loose mean mg mb 177 [.ref ad.t, .int (i : Nat) t0, .str name t2, .str uri t3, .str loc t4] 6 18 Tr ad
      (fun v T' => ∃ t, v = .int (Tr.length : Nat) t ∧ T' = (Tr ++ [newRow (Str.ofString "element") name uri loc (Str.ofString "") (some i)]).set i { Rp with kids := Rp.kids ++ [Tr.length] }) := by
  intro A s Q E hA T X hT ret
  refine' enterK [(Str.ofString "self", .ref ad.t), (Str.ofString "parent", .int (i : Nat) t0), (Str.ofString "name", .str name t2), (Str.ofString "uri", .str uri t3), (Str.ofString "local", .str loc t4)] (X.keeps (hideAll_ext ad.all s.heap)) (T.keeps (hideAll_ext ad.all s.heap)) ?k6 ?k7 ?k8 ?k9 ?kB ?_ ?c2 ?c3 ?c4 ?c5
  (case k6 => k_dflt k_is); (case k7 => k_dflt k_is); (case k8 => with_reducible assumption); (case k9 => exact rfl); (case kB => exact rfl); (case c5 => decide); (case c2 => exact rfl); (case c3 => exact rfl); (case c4 => exact rfl)
  intro L h₁ F0 N0 hA'
  obtain ⟨F, hoff, hT1⟩ := tree_in hT F0
  have N : News (hideAll s.heap ad.all) L h₁ [] := News.nil
  clear F0 N0
  (try dsimp only); (try k_fold)
  (walk_at "mgo")
  refine (add_child_T Tr ad i Rp (newRow (Str.ofString "element") name uri loc (Str.ofString "") (some i)) _ _ _ _ _ _ hi hpar rfl rfl rfl rfl hz hl).useT F N X T hoff (List.forall_mem_nil _) (hA'.le (by omega) (by omega)) hT1 fun v T' ad' h' tk' F2 N2 hoff2 hn2 hT3 e2 hg2 hps2 p2 => ?_
  repeat walk_at "gq"
  exact ret _ _ _ (ret_mod F2) ⟨_, ad', hT3, e2, tree_fresh hT F hg2, hps2, p2⟩
theorem add_text_T (Tr : List RowD) (ad : TAd) (i : Nat) (Rp : RowD) (t0 t2 : Tok) (value : Str) (hi : Tr[i]? = some Rp) (hpar : isPar Rp.kind = true) (hz : Tr.length ≤ 60) (hl : Rp.kids.length + 1 ≤ 100) :
    MutT prog w loose mean mg mb 184 [.ref ad.t, .int (i : Nat) t0, .str value t2] 6 18 Tr ad
      (fun v T' => ∃ t, v = .int (Tr.length : Nat) t ∧ T' = (Tr ++ [newRow (Str.ofString "text") (Str.ofString "") (Str.ofString "") (Str.ofString "") value (some i)]).set i { Rp with kids := Rp.kids ++ [Tr.length] }) := by
  intro A s Q E hA T X hT ret
  refine' enterK [(Str.ofString "self", .ref ad.t), (Str.ofString "parent", .int (i : Nat) t0), (Str.ofString "value", .str value t2)] (X.keeps (hideAll_ext ad.all s.heap)) (T.keeps (hideAll_ext ad.all s.heap)) ?k6 ?k7 ?k8 ?k9 ?kB ?_ ?c2 ?c3 ?c4 ?c5
  (case k6 => k_dflt k_is); (case k7 => k_dflt k_is); (case k8 => with_reducible assumption); (case k9 => exact rfl); (case kB => exact rfl); (case c5 => decide); (case c2 => exact rfl); (case c3 => exact rfl); (case c4 => exact rfl)
  intro L h₁ F0 N0 hA'
  obtain ⟨F, hoff, hT1⟩ := tree_in hT F0
  have N : News (hideAll s.heap ad.all) L h₁ [] := News.nil
  clear F0 N0
  (try dsimp only); (try k_fold)
  (walk_at "mgo")
  refine (add_child_T Tr ad i Rp (newRow (Str.ofString "text") (Str.ofString "") (Str.ofString "") (Str.ofString "") value (some i)) _ _ _ _ _ _ hi hpar rfl rfl rfl rfl hz hl).useT F N X T hoff (List.forall_mem_nil _) (hA'.le (by omega) (by omega)) hT1 fun v T' ad' h' tk' F2 N2 hoff2 hn2 hT3 e2 hg2 hps2 p2 => ?_
  repeat walk_at "gq"
  exact ret _ _ _ (ret_mod F2) ⟨_, ad', hT3, e2, tree_fresh hT F hg2, hps2, p2⟩
theorem add_comment_T (Tr : List RowD) (ad : TAd) (i : Nat) (Rp : RowD) (t0 t2 : Tok) (value : Str) (hi : Tr[i]? = some Rp) (hpar : isPar Rp.kind = true) (hz : Tr.length ≤ 60) (hl : Rp.kids.length + 1 ≤ 100) :
    MutT prog w loose mean mg mb 191 [.ref ad.t, .int (i : Nat) t0, .str value t2] 6 18 Tr ad
      (fun v T' => ∃ t, v = .int (Tr.length : Nat) t ∧ T' = (Tr ++ [newRow (Str.ofString "comment") (Str.ofString "") (Str.ofString "") (Str.ofString "") value (some i)]).set i { Rp with kids := Rp.kids ++ [Tr.length] }) := by
  intro A s Q E hA T X hT ret
  refine' enterK [(Str.ofString "self", .ref ad.t), (Str.ofString "parent", .int (i : Nat) t0), (Str.ofString "value", .str value t2)] (X.keeps (hideAll_ext ad.all s.heap)) (T.keeps (hideAll_ext ad.all s.heap)) ?k6 ?k7 ?k8 ?k9 ?kB ?_ ?c2 ?c3 ?c4 ?c5
  (case k6 => k_dflt k_is); (case k7 => k_dflt k_is); (case k8 => with_reducible assumption); (case k9 => exact rfl); (case kB => exact rfl); (case c5 => decide); (case c2 => exact rfl); (case c3 => exact rfl); (case c4 => exact rfl)
  intro L h₁ F0 N0 hA'
  obtain ⟨F, hoff, hT1⟩ := tree_in hT F0
  have N : News (hideAll s.heap ad.all) L h₁ [] := News.nil
  clear F0 N0
  (try dsimp only); (try k_fold)
  (walk_at "mgo")
  refine (add_child_T Tr ad i Rp (newRow (Str.ofString "comment") (Str.ofString "") (Str.ofString "") (Str.ofString "") value (some i)) _ _ _ _ _ _ hi hpar rfl rfl rfl rfl hz hl).useT F N X T hoff (List.forall_mem_nil _) (hA'.le (by omega) (by omega)) hT1 fun v T' ad' h' tk' F2 N2 hoff2 hn2 hT3 e2 hg2 hps2 p2 => ?_
  repeat walk_at "gq"
  exact ret _ _ _ (ret_mod F2) ⟨_, ad', hT3, e2, tree_fresh hT F hg2, hps2, p2⟩
theorem element_row_S (Tr : List RowD) (ad : TAd) (i : Nat) (pl : Plc) (R : RowD) (tk : Tok) (hp : ad.ps[i]? = some pl) (hi : Tr[i]? = some R) (hk : R.kind = Str.ofString "element") :
    Reads1 prog w loose mean mg mb 205 [.ref ad.t, .int (i : Nat) tk] 2 6 (fun h => TreeH h Tr ad) (fun h v h' => v = .ref pl.r) := by
  intro A s Q E hA T X hT ret
  have hl := (List.getElem?_eq_some_iff.mp hi).1; have hR := hT.row i R pl hi hp
  refine' enterK [(Str.ofString "self", .ref ad.t), (Str.ofString "element", .int (i : Nat) tk)] X T ?k6 ?k7 ?k8 ?k9 ?kB ?_ ?c2 ?c3 ?c4 ?c5
  (case k6 => k_dflt k_is); (case k7 => k_dflt k_is); (case k8 => with_reducible assumption); (case k9 => exact rfl); (case kB => exact rfl); (case c5 => decide); (case c2 => exact rfl); (case c3 => exact rfl); (case c4 => exact rfl)
  intro L h₁ F N hA'
  k_fold
  (walk_at "mgo")
  (refine' Reads1.use (row_S Tr ad i pl tk hp hl) ?F9 ?N9 ?X9 ?T9 ?A9 ?p9 ?_; (case F9 => with_reducible assumption); (case N9 => with_reducible assumption); (case X9 => with_reducible assumption); (case T9 => with_reducible assumption); (case A9 => (walk_at "mA")); (case p9 => (walk_at "mT"))); intro v9 h9 tk9 F9 N9 e9 p9; subst p9; (try dsimp only)
  (walk_at "mgo")
  · rename_i hc
    rw [hk] at hc
    exact absurd hc (by decide)
  · with_reducible rename Fr _ _ _ _ => F5
    repeat walk_at "gq"
    exact ret _ _ _ F5.keep rfl
inductive JNs (Tr : List RowD) (ad : TAd) (i : Nat) (t0 t2 t3 : Tok) (pre uri : Str) (pl : Plc) (done : List Nat) (x1 : List Nat) (m₁ : Str → Option Value) (news₁ : List (Addr × Obj)) : Prop
  | intro  : (m₁ (Str.ofString "self") = some (.ref ad.t)) → (m₁ (Str.ofString "element") = some (.int (i : Nat) t0)) → (m₁ (Str.ofString "prefix") = some (.str pre t2)) → (m₁ (Str.ofString "uri") = some (.str uri t3)) → (m₁ (Str.ofString "row") = some (.ref pl.r)) → (news₁ = []) → (∀ n ∈ done, ∀ Rn, Tr[n]? = some Rn → Rn.name ≠ pre) → JNs Tr ad i t0 t2 t3 pre uri pl done x1 m₁ news₁
theorem add_namespace_T (Tr : List RowD) (ad : TAd) (i : Nat) (R : RowD) (t0 t2 t3 : Tok) (pre uri : Str) (hi : Tr[i]? = some R) (hke : R.kind = Str.ofString "element") (hz : Tr.length ≤ 60) (hl : R.nss.length + 1 ≤ 100) (hv : ∀ n ∈ R.nss, n < Tr.length) :
    MutT prog w loose mean mg mb 219 [.ref ad.t, .int (i : Nat) t0, .str pre t2, .str uri t3] 5 15 Tr ad
      (fun v T' => (∃ n Rn, n ∈ R.nss ∧ Tr[n]? = some Rn ∧ Rn.name = pre ∧ T' = Tr.set n { Rn with value := uri }) ∨
        ((∀ n ∈ R.nss, ∀ Rn, Tr[n]? = some Rn → Rn.name ≠ pre) ∧ T' = (Tr ++ [newRow (Str.ofString "namespace") pre (Str.ofString "") pre uri (some i)]).set i { R with nss := R.nss ++ [Tr.length] })) := by
  intro A s Q E hA T X hT ret
  obtain ⟨pl, hp, hR0⟩ := hT.row_of hi
  have X0 := X.keeps (hideAll_ext ad.all s.heap)
  have T0 := T.keeps (hideAll_ext ad.all s.heap)
  have hXT := And.intro X T
  clear X T
  refine' enterK [(Str.ofString "self", .ref ad.t), (Str.ofString "element", .int (i : Nat) t0), (Str.ofString "prefix", .str pre t2), (Str.ofString "uri", .str uri t3)] X0 T0 ?k6 ?k7 ?k8 ?k9 ?kB ?_ ?c2 ?c3 ?c4 ?c5
  (case k6 => k_dflt k_is); (case k7 => k_dflt k_is); (case k8 => with_reducible assumption); (case k9 => exact rfl); (case kB => exact rfl); (case c5 => decide); (case c2 => exact rfl); (case c3 => exact rfl); (case c4 => exact rfl)
  intro L h₁ F N hA'
  have hA0 := hA'
  have X := X0
  have T := T0
  (try dsimp only); (try k_fold)
  (walk_at "mgo")
  (refine' Reads1.use (element_row_S Tr ad i pl R _ hp hi hke) ?F9 ?N9 ?X9 ?T9 ?A9 ?p9 ?_; (case F9 => with_reducible assumption); (case N9 => with_reducible assumption); (case X9 => with_reducible assumption); (case T9 => with_reducible assumption); (case A9 => (walk_at "mA")); (case p9 => (walk_at "mT"))); intro v9 h9 tk9 F9 N9 e9 p9; subst p9; (try dsimp only)
  (walk_at "mgo")
  obtain ⟨vs, c, hl1, hl2⟩ := hR0.nss
  with_reducible rename Fr _ _ _ _ => F2
  with_reducible rename News _ _ _ _ => N2
  refine loop_list (xs := R.nss) (news := []) (JNs Tr ad i t0 t2 t3 pre uri pl)
    hA0.hd (F2.keep _ _ hl1) hl2 (fun q => absurd (Heap.lt_size hl1) (Nat.not_lt.mpr (q ▸ F2.above))) F2 N2 (fun p hp => hp) ⟨rfl, rfl, rfl, rfl, rfl, rfl, fun n hn => by cases hn⟩ ?_ ?_
  · rintro dn y rest t m₁ news₁ h₃ tk₃ own hsp ⟨hm1, hm2, hm3, hm4, hm5, rfl, hno⟩ hown F3 N3
    have F4 := fr_look [(Str.ofString "node", .int (y : Nat) t), (Str.ofString "self", .ref ad.t), (Str.ofString "element", .int (i : Nat) t0), (Str.ofString "prefix", .str pre t2), (Str.ofString "uri", .str uri t3), (Str.ofString "row", .ref pl.r)] F3 (List.forall_mem_cons.mpr ⟨by first | rfl | assumption, List.forall_mem_cons.mpr ⟨by first | rfl | assumption, List.forall_mem_cons.mpr ⟨by first | rfl | assumption, List.forall_mem_cons.mpr ⟨by first | rfl | assumption, List.forall_mem_cons.mpr ⟨by first | rfl | assumption, List.forall_mem_cons.mpr ⟨by first | rfl | assumption, List.forall_mem_nil _⟩⟩⟩⟩⟩⟩)
    have hym : y ∈ R.nss := by rw [hsp]; simp
    have hylt := hv y hym
    obtain ⟨Ry, hy⟩ : ∃ Ry, Tr[y]? = some Ry := ⟨Tr[y], by simp [hylt]⟩
    obtain ⟨py, hpy, _⟩ := hT.row_of hy
    clear F3 F2 N2
    (try dsimp only); (try k_fold)
    (walk_at "mgo")
    · rename_i hname
      obtain ⟨F6, hoff, hT6⟩ := tree_in hT F4
      clear F4 N3 X T
      refine t_set_value (news := []) F6 News.nil hXT.1 hoff (List.forall_mem_nil _) hT6 hy hpy fun h7 tk7 F7 N7 hT7 => ?_
      (try dsimp only); (try k_fold)
      (walk_at "mgo")
      repeat walk_at "gq"
      exact g7 _ _ (ret _ _ _ (ret_mod F7) ⟨_, ad, hT7, rfl, fun a h => .inl h, fun _ _ h => h, .inl ⟨y, Ry, hym, hy, eq_of_beq hname, rfl⟩⟩)
    · rename_i hname
      refine ⟨_, _, _, _, [], rfl, F4, N3, (fun p hp => hp), (fun p hp => by cases hp), (fun p hp => by cases hp), rfl, rfl, rfl, rfl, rfl, rfl, fun n hn Rn hRn => ?_⟩
      rcases List.mem_append.mp hn with h | h
      · exact hno n h Rn hRn
      · rw [List.mem_singleton.mp h, hy] at hRn
        cases hRn
        exact fun q => by rw [q] at hname; simp at hname
  · rintro m₁ news₁ h₃ tk₃ ⟨hm1, hm2, hm3, hm4, hm5, rfl, hno⟩ F3 N3
    have F4 := fr_look [(Str.ofString "self", .ref ad.t), (Str.ofString "element", .int (i : Nat) t0), (Str.ofString "prefix", .str pre t2), (Str.ofString "uri", .str uri t3), (Str.ofString "row", .ref pl.r)] F3 (List.forall_mem_cons.mpr ⟨by first | rfl | assumption, List.forall_mem_cons.mpr ⟨by first | rfl | assumption, List.forall_mem_cons.mpr ⟨by first | rfl | assumption, List.forall_mem_cons.mpr ⟨by first | rfl | assumption, List.forall_mem_cons.mpr ⟨by first | rfl | assumption, List.forall_mem_nil _⟩⟩⟩⟩⟩)
    clear F3 F2 N2
    (try dsimp only); (try k_fold)
    (walk_at "mgo")
    obtain ⟨F6, hoff, hT6⟩ := tree_in hT F4
    obtain ⟨X, T⟩ := hXT
    refine (new_row_T Tr ad (newRow (Str.ofString "namespace") pre (Str.ofString "") pre uri (some i)) _ _ _ _ _ (.int (i : Nat) t0) ⟨_, rfl⟩ rfl rfl rfl hz).useT F6 News.nil X T hoff (List.forall_mem_nil _) (hA0.le (by omega) (by omega)) hT6 fun v T' ad' h' tk' F2 N2 hoff2 hn2 hT3 e2 hg2 hps2 p2 => ?_
    obtain ⟨t, rfl, rfl⟩ := p2
    have hg3 := tree_fresh hT F6 hg2
    have hlt := (List.getElem?_eq_some_iff.mp hi).1
    have hi' : (Tr ++ [newRow (Str.ofString "namespace") pre (Str.ofString "") pre uri (some i)])[i]? = some R := by rw [List.getElem?_append_left hlt]; exact hi
    have hp2 := hps2 i pl hp
    have N8 := tree_led0 hT3 hoff2
    clear F4 F6 N3 N2 hT6 hp X0 T0 hg2
    (walk_at "mgo")
    with_reducible rename Fr _ _ _ _ => F3
    with_reducible rename News _ _ _ _ => N3
    refine t_app_nss (news := []) F3 News.nil hoff2 (List.forall_mem_nil _) (tree_now hT3 N3 (fun _ h => h)) hi' hp2 hl (fun h5 F5 N5 hT5 => ?_)
    (try dsimp only); (try k_fold)
    (walk_at "mgo")
    repeat walk_at "gq"
    exact ret _ _ _ (ret_mod F5) ⟨_, ad', hT5, e2, hg3, hps2, .inr ⟨hno, rfl⟩⟩
end
theorem topOff_mut3 : True := by
  w_top off
  trivial
section
variable {prog : Program} {w : World} {loose : List Str} {mean : ExcName → Option Value} {mg mb : Str → Option Value}
inductive JAt (Tr : List RowD) (ad : TAd) (i : Nat) (t0 t2 t3 t4 t5 : Tok) (name uri loc value : Str) (pl : Plc) (done : List Nat) (x1 : List Nat) (m₁ : Str → Option Value) (news₁ : List (Addr × Obj)) : Prop
  | intro  : (m₁ (Str.ofString "self") = some (.ref ad.t)) → (m₁ (Str.ofString "element") = some (.int (i : Nat) t0)) → (m₁ (Str.ofString "name") = some (.str name t2)) → (m₁ (Str.ofString "uri") = some (.str uri t3)) → (m₁ (Str.ofString "local") = some (.str loc t4)) → (m₁ (Str.ofString "value") = some (.str value t5)) → (m₁ (Str.ofString "row") = some (.ref pl.r)) → (news₁ = []) → (∀ n ∈ done, ∀ Rn, Tr[n]? = some Rn → ¬ (Rn.uri = uri ∧ Rn.loc = loc)) → JAt Tr ad i t0 t2 t3 t4 t5 name uri loc value pl done x1 m₁ news₁
theorem set_attribute_T (Tr : List RowD) (ad : TAd) (i : Nat) (R : RowD) (t0 t2 t3 t4 t5 : Tok) (name uri loc value : Str) (hi : Tr[i]? = some R) (hke : R.kind = Str.ofString "element") (hz : Tr.length ≤ 60) (hl : R.atts.length + 1 ≤ 100) (hv : ∀ n ∈ R.atts, n < Tr.length) :
    MutT prog w loose mean mg mb 212 [.ref ad.t, .int (i : Nat) t0, .str name t2, .str uri t3, .str loc t4, .str value t5] 5 15 Tr ad
      (fun v T' => (∃ n Rn, n ∈ R.atts ∧ Tr[n]? = some Rn ∧ Rn.uri = uri ∧ Rn.loc = loc ∧ T' = Tr.set n { Rn with name := name, value := value }) ∨
        ((∀ n ∈ R.atts, ∀ Rn, Tr[n]? = some Rn → ¬ (Rn.uri = uri ∧ Rn.loc = loc)) ∧ T' = (Tr ++ [newRow (Str.ofString "attribute") name uri loc value (some i)]).set i { R with atts := R.atts ++ [Tr.length] })) := by
  intro A s Q E hA T X hT ret
  obtain ⟨pl, hp, hR0⟩ := hT.row_of hi
  have X0 := X.keeps (hideAll_ext ad.all s.heap)
  have T0 := T.keeps (hideAll_ext ad.all s.heap)
  have hXT := And.intro X T
  clear X T
  refine' enterK [(Str.ofString "self", .ref ad.t), (Str.ofString "element", .int (i : Nat) t0), (Str.ofString "name", .str name t2), (Str.ofString "uri", .str uri t3), (Str.ofString "local", .str loc t4), (Str.ofString "value", .str value t5)] X0 T0 ?k6 ?k7 ?k8 ?k9 ?kB ?_ ?c2 ?c3 ?c4 ?c5
  (case k6 => k_dflt k_is); (case k7 => k_dflt k_is); (case k8 => with_reducible assumption); (case k9 => exact rfl); (case kB => exact rfl); (case c5 => decide); (case c2 => exact rfl); (case c3 => exact rfl); (case c4 => exact rfl)
  intro L h₁ F N hA'
  have hA0 := hA'
  have X := X0
  have T := T0
  (try dsimp only); (try k_fold)
  (walk_at "mgo")
  (refine' Reads1.use (element_row_S Tr ad i pl R _ hp hi hke) ?F9 ?N9 ?X9 ?T9 ?A9 ?p9 ?_; (case F9 => with_reducible assumption); (case N9 => with_reducible assumption); (case X9 => with_reducible assumption); (case T9 => with_reducible assumption); (case A9 => (walk_at "mA")); (case p9 => (walk_at "mT"))); intro v9 h9 tk9 F9 N9 e9 p9; subst p9; (try dsimp only)
  (walk_at "mgo")
  obtain ⟨vs, c, hl1, hl2⟩ := hR0.atts
  with_reducible rename Fr _ _ _ _ => F2
  with_reducible rename News _ _ _ _ => N2
  refine loop_list (xs := R.atts) (news := []) (JAt Tr ad i t0 t2 t3 t4 t5 name uri loc value pl)
    hA0.hd (F2.keep _ _ hl1) hl2 (fun q => absurd (Heap.lt_size hl1) (Nat.not_lt.mpr (q ▸ F2.above))) F2 N2 (fun p hp => hp) ⟨rfl, rfl, rfl, rfl, rfl, rfl, rfl, rfl, fun n hn => by cases hn⟩ ?_ ?_
  · rintro dn y rest t m₁ news₁ h₃ tk₃ own hsp ⟨hm1, hm2, hm3, hm4, hm5, hm6, hm7, rfl, hno⟩ hown F3 N3
    have F4 := fr_look [(Str.ofString "node", .int (y : Nat) t), (Str.ofString "self", .ref ad.t), (Str.ofString "element", .int (i : Nat) t0), (Str.ofString "name", .str name t2), (Str.ofString "uri", .str uri t3), (Str.ofString "local", .str loc t4), (Str.ofString "value", .str value t5), (Str.ofString "row", .ref pl.r)] F3 (List.forall_mem_cons.mpr ⟨by first | rfl | assumption, List.forall_mem_cons.mpr ⟨by first | rfl | assumption, List.forall_mem_cons.mpr ⟨by first | rfl | assumption, List.forall_mem_cons.mpr ⟨by first | rfl | assumption, List.forall_mem_cons.mpr ⟨by first | rfl | assumption, List.forall_mem_cons.mpr ⟨by first | rfl | assumption, List.forall_mem_cons.mpr ⟨by first | rfl | assumption, List.forall_mem_cons.mpr ⟨by first | rfl | assumption, List.forall_mem_nil _⟩⟩⟩⟩⟩⟩⟩⟩)
    have hym : y ∈ R.atts := by rw [hsp]; simp
    have hylt := hv y hym
    obtain ⟨Ry, hy⟩ : ∃ Ry, Tr[y]? = some Ry := ⟨Tr[y], by simp [hylt]⟩
    obtain ⟨py, hpy, _⟩ := hT.row_of hy
    clear F3 F2 N2
    (try dsimp only); (try k_fold)
    (walk_at "mgo")
    · rename_i _ hu _ hlo
      with_reducible rename Fr _ _ _ _ => F5
      obtain ⟨F6, hoff, hT6⟩ := tree_in hT F5
      clear F5 X T
      with_reducible rename News _ _ _ _ => N5
      clear N5
      refine t_set_name (news := []) F6 News.nil hXT.1 hoff (List.forall_mem_nil _) hT6 hy hpy fun h7 tk7 F7 N7 hT7 => ?_
      (try dsimp only); (try k_fold)
      have hy7 : (Tr.set y { Ry with name := name })[y]? = some { Ry with name := name } := by simp [hylt]
      (walk_at "mgo")
      refine t_set_value (news := []) F7 News.nil hXT.1 hoff (List.forall_mem_nil _) hT7 hy7 hpy fun h8 tk8 F8 N8 hT8 => ?_
      rw [List.set_set] at hT8
      clear F7 N7 F6
      (try dsimp only); (try k_fold)
      (walk_at "mgo")
      repeat walk_at "gq"
      exact g7 _ _ (ret _ _ _ (ret_mod F8) ⟨_, ad, hT8, rfl, fun a h => .inl h, fun _ _ h => h, .inl ⟨y, Ry, hym, hy, eq_of_beq hu, eq_of_beq hlo, rfl⟩⟩)
    · rename_i _ hu _ hlo
      with_reducible rename Fr _ _ _ _ => F5
      with_reducible rename News _ _ _ _ => N5
      refine ⟨_, _, _, _, [], rfl, F5, N5, (fun p hp => hp), (fun p hp => by cases hp), (fun p hp => by cases hp), rfl, rfl, rfl, rfl, rfl, rfl, rfl, rfl, fun n hn Rn hRn => ?_⟩
      rcases List.mem_append.mp hn with h | h
      · exact hno n h Rn hRn
      · rw [List.mem_singleton.mp h, hy] at hRn
        cases hRn
        exact fun q => by rw [q.2] at hlo; simp at hlo
    · rename_i _ hu
      with_reducible rename Fr _ _ _ _ => F5
      with_reducible rename News _ _ _ _ => N5
      refine ⟨_, _, _, _, [], rfl, F5, N5, (fun p hp => hp), (fun p hp => by cases hp), (fun p hp => by cases hp), rfl, rfl, rfl, rfl, rfl, rfl, rfl, rfl, fun n hn Rn hRn => ?_⟩
      rcases List.mem_append.mp hn with h | h
      · exact hno n h Rn hRn
      · rw [List.mem_singleton.mp h, hy] at hRn
        cases hRn
        exact fun q => by rw [q.1] at hu; simp at hu
  · rintro m₁ news₁ h₃ tk₃ ⟨hm1, hm2, hm3, hm4, hm5, hm6, hm7, rfl, hno⟩ F3 N3
    have F4 := fr_look [(Str.ofString "self", .ref ad.t), (Str.ofString "element", .int (i : Nat) t0), (Str.ofString "name", .str name t2), (Str.ofString "uri", .str uri t3), (Str.ofString "local", .str loc t4), (Str.ofString "value", .str value t5), (Str.ofString "row", .ref pl.r)] F3 (List.forall_mem_cons.mpr ⟨by first | rfl | assumption, List.forall_mem_cons.mpr ⟨by first | rfl | assumption, List.forall_mem_cons.mpr ⟨by first | rfl | assumption, List.forall_mem_cons.mpr ⟨by first | rfl | assumption, List.forall_mem_cons.mpr ⟨by first | rfl | assumption, List.forall_mem_cons.mpr ⟨by first | rfl | assumption, List.forall_mem_cons.mpr ⟨by first | rfl | assumption, List.forall_mem_nil _⟩⟩⟩⟩⟩⟩⟩)
    clear F3 F2 N2
    (try dsimp only); (try k_fold)
    (walk_at "mgo")
    obtain ⟨F6, hoff, hT6⟩ := tree_in hT F4
    obtain ⟨X, T⟩ := hXT
    refine (new_row_T Tr ad (newRow (Str.ofString "attribute") name uri loc value (some i)) _ _ _ _ _ (.int (i : Nat) t0) ⟨_, rfl⟩ rfl rfl rfl hz).useT F6 News.nil X T hoff (List.forall_mem_nil _) (hA0.le (by omega) (by omega)) hT6 fun v T' ad' h' tk' F2 N2 hoff2 hn2 hT3 e2 hg2 hps2 p2 => ?_
    obtain ⟨t, rfl, rfl⟩ := p2
    have hg3 := tree_fresh hT F6 hg2
    have hlt := (List.getElem?_eq_some_iff.mp hi).1
    have hi' : (Tr ++ [newRow (Str.ofString "attribute") name uri loc value (some i)])[i]? = some R := by rw [List.getElem?_append_left hlt]; exact hi
    have hp2 := hps2 i pl hp
    have N8 := tree_led0 hT3 hoff2
    clear F4 F6 N3 N2 hT6 hp X0 T0 hg2
    (walk_at "mgo")
    with_reducible rename Fr _ _ _ _ => F3
    with_reducible rename News _ _ _ _ => N3
    refine t_app_atts (news := []) F3 News.nil hoff2 (List.forall_mem_nil _) (tree_now hT3 N3 (fun _ h => h)) hi' hp2 hl (fun h5 F5 N5 hT5 => ?_)
    (try dsimp only); (try k_fold)
    (walk_at "mgo")
    repeat walk_at "gq"
    exact ret _ _ _ (ret_mod F5) ⟨_, ad', hT5, e2, hg3, hps2, .inr ⟨hno, rfl⟩⟩
end
theorem topOff_mut4 : True := by
  w_top off
  trivial
section
variable {prog : Program} {w : World} {loose : List Str} {mean : ExcName → Option Value} {mg mb : Str → Option Value}
theorem list_above_S (Tr : List RowD) (ad : TAd) (i j : Nat) (R : RowD) (pj : Plc) (tk : Tok) (hi : Tr[i]? = some R) (hpar : R.parent = some j) (hpj : ad.ps[j]? = some pj) (hj : j < Tr.length) (hk : R.kind = Str.ofString "element") :
    Reads1 prog w loose mean mg mb 324 [.ref ad.t, .int (i : Nat) tk] 3 9 (fun h => TreeH h Tr ad) (fun h v h' => v = .ref pj.c) := by
  intro A s Q E hA T X hT ret
  have hRj := hT.row j Tr[j] pj (by simp [hj]) hpj
  refine' enterK [(Str.ofString "tree", .ref ad.t), (Str.ofString "node", .int (i : Nat) tk)] X T ?k6 ?k7 ?k8 ?k9 ?kB ?_ ?c2 ?c3 ?c4 ?c5
  (case k6 => k_dflt k_is); (case k7 => k_dflt k_is); (case k8 => with_reducible assumption); (case k9 => exact rfl); (case kB => exact rfl); (case c5 => decide); (case c2 => exact rfl); (case c3 => exact rfl); (case c4 => exact rfl)
  intro L h₁ F N hA'
  k_fold
  (walk_at "mgo")
  (refine' Reads1.use (parent_S Tr ad i R _ hi) ?F9 ?N9 ?X9 ?T9 ?A9 ?p9 ?_; (case F9 => with_reducible assumption); (case N9 => with_reducible assumption); (case X9 => with_reducible assumption); (case T9 => with_reducible assumption); (case A9 => (walk_at "mA")); (case p9 => (walk_at "mT"))); intro v9 h9 tk9 F9 N9 e9 p9; skip; (try dsimp only)
  rw [hpar] at p9
  obtain ⟨tp, rfl⟩ := p9
  clear F N e9
  (walk_at "mgo")
  (refine' Reads1.use (row_S Tr ad j pj _ hpj hj) ?F9 ?N9 ?X9 ?T9 ?A9 ?p9 ?_; (case F9 => with_reducible assumption); (case N9 => with_reducible assumption); (case X9 => with_reducible assumption); (case T9 => with_reducible assumption); (case A9 => (walk_at "mA")); (case p9 => (walk_at "mT"))); intro v9 h9 tk9 F9 N9 e9 p9; subst p9; (try dsimp only)
  (walk_at "mgo")
  with_reducible rename Fr _ _ _ _ => F2
  with_reducible rename News _ _ _ _ => N2
  (refine' Reads1.use (kind_S Tr ad i R _ hi) ?F9 ?N9 ?X9 ?T9 ?A9 ?p9 ?_; (case F9 => with_reducible assumption); (case N9 => with_reducible assumption); (case X9 => with_reducible assumption); (case T9 => with_reducible assumption); (case A9 => (walk_at "mA")); (case p9 => (walk_at "mT"))); intro v9 h9 tk9 F9 N9 e9 p9; obtain ⟨tk9, rfl⟩ := p9; (try dsimp only)
  clear F2 N2
  (walk_at "mgo")
  · rename_i hq
    rw [hk] at hq; exact absurd hq (by decide)
  · rename_i hq
    rw [hk] at hq; exact absurd hq (by decide)
  · with_reducible rename Fr _ _ _ _ => F2
    repeat walk_at "gq"
    exact ret _ _ _ F2.keep rfl
theorem remove_T (Tr : List RowD) (ad : TAd) (i j : Nat) (R Rj : RowD) (t0 : Tok) (hi : Tr[i]? = some R) (hpar : R.parent = some j) (hj : Tr[j]? = some Rj) (hk : R.kind = Str.ofString "element") (hm : i ∈ Rj.kids) (hij : i ≠ j) :
    MutT prog w loose mean mg mb 331 [.ref ad.t, .int (i : Nat) t0] 4 12 Tr ad
      (fun v T' => T' = (Tr.set j { Rj with kids := Rj.kids.erase i }).set i { R with parent := none }) := by
  intro A s Q E hA T X hT ret
  obtain ⟨pj, hpj, hRj⟩ := hT.row_of hj
  obtain ⟨pl, hp, hR0⟩ := hT.row_of hi
  have hlj := (List.getElem?_eq_some_iff.mp hj).1
  have hli := (List.getElem?_eq_some_iff.mp hi).1
  have X0 := X.keeps (hideAll_ext ad.all s.heap)
  have T0 := T.keeps (hideAll_ext ad.all s.heap)
  have hXT := And.intro X T
  clear X T
  refine' enterK [(Str.ofString "tree", .ref ad.t), (Str.ofString "node", .int (i : Nat) t0)] X0 T0 ?k6 ?k7 ?k8 ?k9 ?kB ?_ ?c2 ?c3 ?c4 ?c5
  (case k6 => k_dflt k_is); (case k7 => k_dflt k_is); (case k8 => with_reducible assumption); (case k9 => exact rfl); (case kB => exact rfl); (case c5 => decide); (case c2 => exact rfl); (case c3 => exact rfl); (case c4 => exact rfl)
  intro L h₁ F N hA'
  (try dsimp only); (try k_fold)
  have X := X0
  have T := T0
  (walk_at "mgo")
  (refine' Reads1.use (parent_S Tr ad i R _ hi) ?F9 ?N9 ?X9 ?T9 ?A9 ?p9 ?_; (case F9 => with_reducible assumption); (case N9 => with_reducible assumption); (case X9 => with_reducible assumption); (case T9 => with_reducible assumption); (case A9 => (walk_at "mA")); (case p9 => (walk_at "mT"))); intro v9 h9 tk9 F9 N9 e9 p9; skip; (try dsimp only)
  rw [hpar] at p9
  obtain ⟨tp, rfl⟩ := p9
  clear F N e9
  (walk_at "mgo")
  with_reducible rename Fr _ _ _ _ => F2
  with_reducible rename News _ _ _ _ => N2
  (refine' Reads1.use (list_above_S Tr ad i j R pj _ hi hpar hpj hlj hk) ?F9 ?N9 ?X9 ?T9 ?A9 ?p9 ?_; (case F9 => with_reducible assumption); (case N9 => with_reducible assumption); (case X9 => with_reducible assumption); (case T9 => with_reducible assumption); (case A9 => (walk_at "mA")); (case p9 => (walk_at "mT"))); intro v9 h9 tk9 F9 N9 e9 p9; subst p9; (try dsimp only)
  clear F2 N2
  (walk_at "mgo")
  obtain ⟨F6, hoff, hT6⟩ := tree_in hT F9
  refine t_rem_kids (news := []) F6 News.nil hoff (List.forall_mem_nil _) hT6 hj hpj hm (fun h5 F5 N5 hT5 => ?_)
  clear F6 F9 N9 X T X0 T0 hT6
  obtain ⟨X, T⟩ := hXT
  have hi5 : (Tr.set j { Rj with kids := Rj.kids.erase i })[i]? = some R := by rw [List.getElem?_set_ne (Ne.symm hij)]; exact hi
  (try dsimp only); (try k_fold)
  (walk_at "mgo")
  have hli5 : i < (Tr.set j { Rj with kids := Rj.kids.erase i }).length := by simpa using hli
  (refine' Reads1.use (row_S _ ad i pl _ hp hli5) ?F9 ?N9 ?X9 ?T9 ?A9 ?p9 ?_; (case F9 => with_reducible assumption); (case N9 => with_reducible assumption); (case X9 => with_reducible assumption); (case T9 => with_reducible assumption); (case A9 => (walk_at "mA")); (case p9 => (walk_at "mT"))); intro v9 h9 tk9 F9 N9 e9 p9; subst p9; (try dsimp only)
  have hT9 := hT5.ext e9
  clear F5 N5 hT5
  (walk_at "mgo")
  refine t_set_parent (news := []) (o := none) F9 News.nil X hoff (List.forall_mem_nil _) hT9 hi5 hp rfl fun h7 tk7 F7 N7 hT7 => ?_
  clear F9 N9
  (try dsimp only); (try k_fold)
  (walk_at "mgo")
  repeat walk_at "gq"
  exact ret _ _ _ (ret_mod F7) ⟨_, ad, hT7, rfl, fun a h => .inl h, fun _ _ h => h, rfl⟩
end
theorem topOff_mut5 : True := by
  w_top off
  trivial
section
variable {prog : Program} {w : World} {loose : List Str} {mean : ExcName → Option Value} {mg mb : Str → Option Value}
theorem check_place_S (Tr : List RowD) (ad : TAd) (i q : Nat) (R Rq : RowD) (l : List Nat) (tk tq tx : Tok) (hi : Tr[i]? = some R) (hq : Tr[q]? = some Rq) (hk : R.kind = Str.ofString "element") (hpq : isPar Rq.kind = true) (hu : Up Tr q l) (hil : i ∉ l) :
    Reads1 prog w loose mean mg mb 338 [.ref ad.t, .int (q : Nat) tq, .int 0 tx, .int (i : Nat) tk] 4 12 (fun h => TreeH h Tr ad) (fun h v h' => v = .none) := by
  intro A s Q E hA T X hT ret
  refine' enterK [(Str.ofString "tree", .ref ad.t), (Str.ofString "parent", .int (q : Nat) tq), (Str.ofString "index", .int 0 tx), (Str.ofString "node", .int (i : Nat) tk)] X T ?k6 ?k7 ?k8 ?k9 ?kB ?_ ?c2 ?c3 ?c4 ?c5
  (case k6 => k_dflt k_is); (case k7 => k_dflt k_is); (case k8 => with_reducible assumption); (case k9 => exact rfl); (case kB => exact rfl); (case c5 => decide); (case c2 => exact rfl); (case c3 => exact rfl); (case c4 => exact rfl)
  intro L h₁ F N hA'
  k_fold
  (walk_at "mgo")
  (refine' Reads1.use (kind_S Tr ad i R _ hi) ?F9 ?N9 ?X9 ?T9 ?A9 ?p9 ?_; (case F9 => with_reducible assumption); (case N9 => with_reducible assumption); (case X9 => with_reducible assumption); (case T9 => with_reducible assumption); (case A9 => (walk_at "mA")); (case p9 => (walk_at "mT"))); intro v9 h9 tk9 F9 N9 e9 p9; obtain ⟨tk8, rfl⟩ := p9; (try dsimp only)
  clear F N e9
  (walk_at "mgo")
  with_reducible rename Fr _ _ _ _ => F2
  with_reducible rename News _ _ _ _ => N2
  (refine' Reads1.use (kind_S Tr ad q Rq _ hq) ?F9 ?N9 ?X9 ?T9 ?A9 ?p9 ?_; (case F9 => with_reducible assumption); (case N9 => with_reducible assumption); (case X9 => with_reducible assumption); (case T9 => with_reducible assumption); (case A9 => (walk_at "mA")); (case p9 => (walk_at "mT"))); intro v9 h9 tk9 F9 N9 e9 p9; obtain ⟨tk9, rfl⟩ := p9; (try dsimp only)
  clear F2 N2
  (walk_at "mgo")
  with_reducible rename Fr _ _ _ _ => F2
  with_reducible rename News _ _ _ _ => N2
  (refine' Reads1.use (is_above_S Tr ad i q l _ _ hu) ?F9 ?N9 ?X9 ?T9 ?A9 ?p9 ?_; (case F9 => with_reducible assumption); (case N9 => with_reducible assumption); (case X9 => with_reducible assumption); (case T9 => with_reducible assumption); (case A9 => (walk_at "mA")); (case p9 => (walk_at "mT"))); intro v9 h9 tk9 F9 N9 e9 p9; subst p9; (try dsimp only)
  clear F2 N2
  rw [decide_eq_false hil]
  (walk_at "mgo")
  with_reducible rename Fr _ _ _ _ => F2
  with_reducible rename News _ _ _ _ => N2
  (refine' Reads1.useNew (children_S Tr ad q Rq _ hq) ?F9 ?N9 ?X9 ?T9 ?A9 ?p9 ?_; (case F9 => with_reducible assumption); (case N9 => with_reducible assumption); (case X9 => with_reducible assumption); (case T9 => with_reducible assumption); (case A9 => (walk_at "mA")); (case p9 => (walk_at "mT"))); intro a9 o9 h9 tk9 F9 N9 ne9 e9 p9; obtain ⟨vs, c, rfl, hI⟩ := p9; (try dsimp only)
  clear F2 N2
  (walk_at "mgo")
  have hlen := hI.length
  have hlen2 := natInts_length Rq.kids
  have hl3 := (hT.lens q Rq hq).1
  have hkp := F9.keep
  refine len_list_at (N9.get (.head _)) (by omega) fun t => ?_
  (try dsimp only); (try k_fold)
  (walk_at "mgo")
  repeat walk_at "gq"
  exact ret _ _ _ hkp rfl
theorem up_self {T : List RowD} {i : Nat} {l : List Nat} (h : Up T i l) : i ∈ l := by cases h <;> simp
theorem insert_T (Tr : List RowD) (ad : TAd) (i q : Nat) (R Rq : RowD) (l : List Nat) (t0 tq tx : Tok) (hi : Tr[i]? = some R) (hpar : R.parent = none) (hq : Tr[q]? = some Rq) (hk : R.kind = Str.ofString "element") (hpq : isPar Rq.kind = true) (hu : Up Tr q l) (hil : i ∉ l) (hl : Rq.kids.length + 1 ≤ 100) :
    MutT prog w loose mean mg mb 345 [.ref ad.t, .int (q : Nat) tq, .int 0 tx, .int (i : Nat) t0] 5 15 Tr ad
      (fun v T' => T' = (Tr.set q { Rq with kids := i :: Rq.kids }).set i { R with parent := some q }) := by
  intro A s Q E hA T X hT ret
  have hqi : q ≠ i := fun e => hil (e ▸ up_self hu)
  obtain ⟨pq, hpq2, hRq⟩ := hT.row_of hq
  obtain ⟨pl, hp, hR0⟩ := hT.row_of hi
  have hlq := (List.getElem?_eq_some_iff.mp hq).1
  have hli := (List.getElem?_eq_some_iff.mp hi).1
  have X0 := X.keeps (hideAll_ext ad.all s.heap)
  have T0 := T.keeps (hideAll_ext ad.all s.heap)
  have hXT := And.intro X T
  clear X T
  refine' enterK [(Str.ofString "tree", .ref ad.t), (Str.ofString "parent", .int (q : Nat) tq), (Str.ofString "index", .int 0 tx), (Str.ofString "node", .int (i : Nat) t0)] X0 T0 ?k6 ?k7 ?k8 ?k9 ?kB ?_ ?c2 ?c3 ?c4 ?c5
  (case k6 => k_dflt k_is); (case k7 => k_dflt k_is); (case k8 => with_reducible assumption); (case k9 => exact rfl); (case kB => exact rfl); (case c5 => decide); (case c2 => exact rfl); (case c3 => exact rfl); (case c4 => exact rfl)
  intro L h₁ F N hA'
  (try dsimp only); (try k_fold)
  have X := X0
  have T := T0
  (walk_at "mgo")
  (refine' Reads1.use (check_place_S Tr ad i q R Rq l _ _ _ hi hq hk hpq hu hil) ?F9 ?N9 ?X9 ?T9 ?A9 ?p9 ?_; (case F9 => with_reducible assumption); (case N9 => with_reducible assumption); (case X9 => with_reducible assumption); (case T9 => with_reducible assumption); (case A9 => (walk_at "mA")); (case p9 => (walk_at "mT"))); intro v9 h9 tk9 F9 N9 e9 p9; subst p9; (try dsimp only)
  clear F N e9
  (walk_at "mgo")
  with_reducible rename Fr _ _ _ _ => F2
  with_reducible rename News _ _ _ _ => N2
  (refine' Reads1.use (parent_S Tr ad i R _ hi) ?F9 ?N9 ?X9 ?T9 ?A9 ?p9 ?_; (case F9 => with_reducible assumption); (case N9 => with_reducible assumption); (case X9 => with_reducible assumption); (case T9 => with_reducible assumption); (case A9 => (walk_at "mA")); (case p9 => (walk_at "mT"))); intro v9 h9 tk9 F9 N9 e9 p9; skip; (try dsimp only)
  rw [hpar] at p9
  have p8 : v9 = .none := p9
  subst p8
  clear F2 N2
  (walk_at "mgo")
  with_reducible rename Fr _ _ _ _ => F2
  with_reducible rename News _ _ _ _ => N2
  (refine' Reads1.use (row_S Tr ad q pq _ hpq2 hlq) ?F9 ?N9 ?X9 ?T9 ?A9 ?p9 ?_; (case F9 => with_reducible assumption); (case N9 => with_reducible assumption); (case X9 => with_reducible assumption); (case T9 => with_reducible assumption); (case A9 => (walk_at "mA")); (case p9 => (walk_at "mT"))); intro v9 h9 tk9 F9 N9 e9 p9; subst p9; (try dsimp only)
  clear F2 N2
  (walk_at "mgo")
  with_reducible rename Fr _ _ _ _ => F9
  obtain ⟨F6, hoff, hT6⟩ := tree_in hT F9
  refine t_ins_kids (news := []) F6 News.nil hoff (List.forall_mem_nil _) hT6 hq hpq2 hl (fun h5 F5 N5 hT5 => ?_)
  with_reducible rename News s.heap _ _ _ => N9
  clear F6 F9 N9 X T X0 T0 hT6
  obtain ⟨X, T⟩ := hXT
  have hi5 : (Tr.set q { Rq with kids := i :: Rq.kids })[i]? = some R := by rw [List.getElem?_set_ne hqi]; exact hi
  have hli5 : i < (Tr.set q { Rq with kids := i :: Rq.kids }).length := by simpa using hli
  (try dsimp only); (try k_fold)
  (walk_at "mgo")
  (refine' Reads1.use (row_S _ ad i pl _ hp hli5) ?F9 ?N9 ?X9 ?T9 ?A9 ?p9 ?_; (case F9 => with_reducible assumption); (case N9 => with_reducible assumption); (case X9 => with_reducible assumption); (case T9 => with_reducible assumption); (case A9 => (walk_at "mA")); (case p9 => (walk_at "mT"))); intro v9 h9 tk9 F9 N9 e9 p9; subst p9; (try dsimp only)
  have hT9 := hT5.ext e9
  clear F5 N5 hT5
  (walk_at "mgo")
  refine t_set_parent (news := []) (o := some q) F9 News.nil X hoff (List.forall_mem_nil _) hT9 hi5 hp ⟨_, rfl⟩ fun h7 tk7 F7 N7 hT7 => ?_
  clear F9 N9
  (try dsimp only); (try k_fold)
  (walk_at "mgo")
  repeat walk_at "gq"
  exact ret _ _ _ (ret_mod F7) ⟨_, ad, hT7, rfl, fun a h => .inl h, fun _ _ h => h, rfl⟩
end
theorem topOff_mut6 : True := by
  w_top off
  trivial
section
variable {prog : Program} {w : World} {loose : List Str} {mean : ExcName → Option Value} {mg mb : Str → Option Value}
theorem fresh_more {s : Shared} {ad ad' ad2 : TAd} {L : Addr} {h₁ : Heap} {M : Str → Option Value} (F : Fr (hideAll s.heap ad.all) L h₁ M) (h1 : ∀ a ∈ ad'.all, a ∈ ad.all ∨ s.heap.get? a = none) (h2 : ∀ a ∈ ad2.all, a ∈ ad'.all ∨ h₁.get? a = none) :
    ∀ a ∈ ad2.all, a ∈ ad.all ∨ s.heap.get? a = none := fun a ha => by
  rcases h2 a ha with q | q
  · exact h1 a q
  · by_cases hm : a ∈ ad.all
    · exact .inl hm
    · right
      cases hq : s.heap.get? a with
      | none => rfl
      | some o => rw [F.keep _ _ (hideAll_get _ hq hm)] at q; cases q
theorem move_T (Tr T1 : List RowD) (ad : TAd) (i j q : Nat) (R Rj Rq Rq1 : RowD) (l : List Nat) (t0 tq tx : Tok) (hi : Tr[i]? = some R) (hpar : R.parent = some j) (hj : Tr[j]? = some Rj) (hq : Tr[q]? = some Rq) (hk : R.kind = Str.ofString "element") (hm : i ∈ Rj.kids) (hij : i ≠ j) (hpq : isPar Rq.kind = true) (hu : Up Tr q l) (hil : i ∉ l)
    (hT1 : T1 = (Tr.set j { Rj with kids := Rj.kids.erase i }).set i { R with parent := none }) (hq1 : T1[q]? = some Rq1) (hpq1 : isPar Rq1.kind = true) (hu1 : Up T1 q l) (hl1 : Rq1.kids.length + 1 ≤ 100) :
    MutT prog w loose mean mg mb 352 [.ref ad.t, .int (i : Nat) t0, .int (q : Nat) tq, .int 0 tx] 6 18 Tr ad
      (fun v T' => T' = (T1.set q { Rq1 with kids := i :: Rq1.kids }).set i { R with parent := some q }) := by
  intro A s Q E hA T X hT ret
  have hlq := (List.getElem?_eq_some_iff.mp hq).1
  have hli := (List.getElem?_eq_some_iff.mp hi).1
  have X0 := X.keeps (hideAll_ext ad.all s.heap)
  have T0 := T.keeps (hideAll_ext ad.all s.heap)
  have hXT := And.intro X T
  clear X T
  refine' enterK [(Str.ofString "tree", .ref ad.t), (Str.ofString "node", .int (i : Nat) t0), (Str.ofString "parent", .int (q : Nat) tq), (Str.ofString "index", .int 0 tx)] X0 T0 ?k6 ?k7 ?k8 ?k9 ?kB ?_ ?c2 ?c3 ?c4 ?c5
  (case k6 => k_dflt k_is); (case k7 => k_dflt k_is); (case k8 => with_reducible assumption); (case k9 => exact rfl); (case kB => exact rfl); (case c5 => decide); (case c2 => exact rfl); (case c3 => exact rfl); (case c4 => exact rfl)
  intro L h₁ F N hA'
  (try dsimp only); (try k_fold)
  have X := X0
  have T := T0
  (walk_at "mgo")
  (refine' Reads1.use (parent_S Tr ad i R _ hi) ?F9 ?N9 ?X9 ?T9 ?A9 ?p9 ?_; (case F9 => with_reducible assumption); (case N9 => with_reducible assumption); (case X9 => with_reducible assumption); (case T9 => with_reducible assumption); (case A9 => (walk_at "mA")); (case p9 => (walk_at "mT"))); intro v9 h9 tk9 F9 N9 e9 p9; skip; (try dsimp only)
  rw [hpar] at p9
  obtain ⟨tp, rfl⟩ := p9
  clear F N e9
  (walk_at "mgo")
  with_reducible rename Fr _ _ _ _ => F2
  with_reducible rename News _ _ _ _ => N2
  (refine' Reads1.useNew (children_S Tr ad q Rq _ hq) ?F9 ?N9 ?X9 ?T9 ?A9 ?p9 ?_; (case F9 => with_reducible assumption); (case N9 => with_reducible assumption); (case X9 => with_reducible assumption); (case T9 => with_reducible assumption); (case A9 => (walk_at "mA")); (case p9 => (walk_at "mT"))); intro a9 o9 h9 tk9 F9 N9 ne9 e9 p9; obtain ⟨vs, c, rfl, hI⟩ := p9; (try dsimp only)
  clear F2 N2
  (walk_at "mgo")
  have hlen := hI.length
  have hlen2 := natInts_length Rq.kids
  have hl3 := (hT.lens q Rq hq).1
  rw [hlen2] at hlen
  refine len_list_at (N9.get (.head _)) (by omega) fun t => ?_
  rw [hlen]
  (try dsimp only); (try k_fold)
  (walk_at "mgo")
  all_goals (
    have hge : (if j = q then 1 else 0) ≤ Rq.kids.length := by
      by_cases hjq : j = q
      · subst hjq
        rw [hj] at hq; cases hq
        have := List.length_pos_of_mem hm
        rw [if_pos rfl]; omega
      · rw [if_neg hjq]; omega
    have hjq2 : ((j : Nat) : Int) = ((q : Nat) : Int) → j = q := fun e => by omega
    refine min_two_ints hA'.hd fun h5 tk5 e5 => ?_
    have hge2 := hge
    first | rw [if_pos (hjq2 (by assumption))] at hge2 | rw [if_neg (fun e => absurd (congrArg (fun n : Nat => (n : Int)) e) (by assumption))] at hge2
    rw [if_neg (by omega)]
    with_reducible rename Fr _ _ _ _ => F2
    with_reducible rename News _ _ _ _ => N2
    replace F2 := fr_ext F2 e5
    replace N2 := news_ext N2 e5
    (try dsimp only); (try k_fold)
    (walk_at "mgo")
    (refine' Reads1.use (check_place_S Tr ad i q R Rq l _ _ _ hi hq hk hpq hu hil) ?F9 ?N9 ?X9 ?T9 ?A9 ?p9 ?_; (case F9 => with_reducible assumption); (case N9 => with_reducible assumption); (case X9 => with_reducible assumption); (case T9 => with_reducible assumption); (case A9 => (walk_at "mA")); (case p9 => (walk_at "mT"))); intro v9 h9 tk9 F9 N9 e9 p9; subst p9; (try dsimp only)
    clear F2 N2 e9
    (walk_at "mgo")
    with_reducible rename Fr _ _ _ _ => F9
    with_reducible rename News _ _ _ _ => N9
    obtain ⟨F6, hoff, hT6⟩ := tree_in hT F9
    clear F9 N9 X T X0 T0 
    obtain ⟨X, T⟩ := hXT
    refine (remove_T Tr ad i j R Rj _ hi hpar hj hk hm hij).useT F6 News.nil X T hoff (List.forall_mem_nil _) (hA'.le (by omega) (by omega)) hT6 fun v T' ad' h' tk' F2 N2 hoff2 hn2 hT3 e2 hg2 hps2 p2 => ?_
    rw [← hT1] at p2
    subst p2
    have hg3 := tree_fresh hT F6 hg2
    clear F6 hT6 hg2 N2
    generalize hq9 : ad.t = t9 at e2 F2 ⊢
    subst e2
    have N2 := tree_led0 hT3 hoff2
    have hi1 : T'[i]? = some { R with parent := none } := by rw [hT1]; simp [hli]
    (walk_at "mgo")
    with_reducible rename Fr _ _ _ _ => F4
    with_reducible rename News _ _ _ _ => N4
    refine (insert_T T' ad' i q { R with parent := none } Rq1 l _ _ _ hi1 rfl hq1 hk hpq1 hu1 hil hl1).useT F4 News.nil X T hoff2 (List.forall_mem_nil _) (hA'.le (by omega) (by omega)) (tree_now hT3 N4 (fun _ h => h)) fun v T'' ad'' h'' tk'' F7 N7 hoff7 hn7 hT7 e7 hg7 hps7 p7 => ?_
    have hg8 := fresh_more F4 hg3 hg7
    clear F4 N4 N7
    (try dsimp only); (try k_fold)
    (walk_at "mgo")
    repeat walk_at "gq"
    exact ret _ _ _ (ret_mod F7) ⟨_, ad'', hT7, e7.trans hq9.symm, hg8, fun i p h => hps7 i p (hps2 i p h), p7⟩)
end
theorem topOff_treenew : True := by
  w_top off
  trivial
section
variable {prog : Program} {w : World} {loose : List Str} {mean : ExcName → Option Value} {mg mb : Str → Option Value}
theorem tree_new_N {A : Around} {s : Shared} {Q E : Value → Shared → Prop} {h₀ : Heap} {L : Addr} {m : Str → Option Value} {news : List (Addr × Obj)}
    (F : Fr h₀ L s.heap m) (N : News h₀ L s.heap news) (X : (Mine.hd.heap_39 w.params).In h₀) (T : Top topProg loose mean mg mb h₀) (hA : AOk A 3 8)
    (k : ∀ ad h' tk', Fr h₀ L h' m → News h₀ L h' news → TreeH h' [] ad → (∀ a ∈ ad.all, h₀.get? a = none ∧ a ≠ L ∧ ∀ q ∈ news, q.1 ≠ a) → Q (.ref ad.t) { s with heap := h', toks := tk' }) :
    wpAny (model prog w) A (call (.ref 313) []) Q E s := by
  refine' call_cls F X N ?k4 ?k5 ?k6 ?_
  (case k4 => k_dflt k_is); (case k5 => k_dflt k_is); (case k6 => k_dflt k_is)
  intro x dx h₁ F1 N1 l1 l2
  have X1 := X.keeps F1.keep
  have T1 := T.keeps F1.keep
  refine' enterKc [(Str.ofString "self", .ref x)] X1 T1 ?k6 ?k7 (d := 1) (u := 4) ?k8 ?k9 ?kB ?_ ?c2 ?c3 ?c4 ?c5
  (case k8 => exact hA.make)
  (case k6 => k_dflt k_is); (case k7 => k_dflt k_is); (case k9 => exact rfl); (case kB => exact rfl); (case c5 => decide); (case c2 => exact rfl); (case c3 => exact rfl); (case c4 => exact rfl)
  intro L2 h₂ F0 N0 hA'
  have hx1 := (N1 _ (.head _)).1
  have hoff1 : OffB h₀ L [x, dx] := fun a ha => by simp at ha; rcases ha with rfl | rfl; exact ⟨(N1 _ (.head _)).2.2, (N1 _ (.head _)).2.1⟩; exact ⟨(N1 _ (.tail _ (.head _))).2.2, (N1 _ (.tail _ (.head _))).2.1⟩
  have hnn : ∀ p ∈ news, p.1 ∉ [x, dx] := fun p hp q => by
    simp at q
    rcases q with q | q
    · exact Nat.ne_of_lt (Nat.lt_trans (l1 p hp) l2) q
    · exact Nat.ne_of_lt (l1 p hp) q
  have hdx1 := (N1 _ (.tail _ (.head _))).1
  have hoff := hid_off (foot := [x, dx]) F0 (fun a ha => by simp at ha; rcases ha with rfl | rfl; exact ⟨_, hx1⟩; exact ⟨_, hdx1⟩)
  have F2 : Fr (hideAll h₁ [x, dx]) L2 h₂ _ := hid_fr (foot := [x, dx]) F0
  have N2 : News (hideAll h₁ [x, dx]) L2 h₂ [(x, instObj 313 dx), (dx, dictOf [] 0)] := off_news (off_news (hid_news (foot := [x, dx]) N0) hoff (.tail _ (.head _)) (F0.keep _ _ hdx1)) hoff (.head _) (F0.keep _ _ hx1)
  have X2 : (Mine.hd.heap_39 w.params).In (hideAll h₁ [x, dx]) := X.keeps (base_hid F1 (fun a ha => by simp at ha; rcases ha with rfl | rfl; exact ⟨(N1 _ (.head _)).2.2, (N1 _ (.head _)).2.1⟩; exact ⟨(N1 _ (.tail _ (.head _))).2.2, (N1 _ (.tail _ (.head _))).2.1⟩))
  clear X1 T1 F0 N0
  k_lt2 l2
  (try dsimp only); (try k_fold)
  (walk_at "mgo")
  rename_i rl h6 c1 h9 F5 N5
  have hmod : Mod [x, dx] h₁ h9 := fun b o e q => F5.keep b o (hideAll_get _ e q)
  have hrl := N5 _ (.head _)
  have hno : ∀ b o', h₁.get? b = some o' → b ≠ rl := fun b o' e q => by
    subst q
    by_cases hm : b ∈ [x, dx]
    · simp at hm
      rcases hm with rfl | rfl
      · exact absurd c1.1 (Nat.lt_irrefl _)
      · exact absurd c1.2 (Nat.lt_irrefl _)
    · have h1 := hideAll_get [x, dx] e hm
      rw [hrl.2.2] at h1; cases h1
  refine ⟨rfl, k ⟨x, dx, rl, []⟩ h9 _ (fr_mod F1 hmod hoff1) (news_mod (fun p hp => N1 p (.tail _ (.tail _ hp))) hmod hnn) ⟨N5.get (.tail _ (.head _)), ⟨_, _, _, N5.get (.tail _ (.tail _ (.head _)))⟩, ⟨0, N5.get (.head _)⟩, rfl, (fun i R p h _ => by simp at h), ?_, by decide, (fun i R h => by simp at h)⟩ ?_⟩
  · simp only [TAd.all, List.flatMap_nil, List.nodup_cons, List.mem_cons, List.not_mem_nil, or_false, not_or, not_false_eq_true, List.nodup_nil, and_true]
    exact ⟨⟨Nat.ne_of_gt l2, Nat.ne_of_lt c1.1⟩, Nat.ne_of_lt c1.2⟩
  · intro a hma
    simp only [TAd.all, List.flatMap_nil, List.mem_cons, List.not_mem_nil, or_false] at hma
    rcases hma with rfl | rfl | rfl
    · exact ⟨(N1 _ (.head _)).2.2, (N1 _ (.head _)).2.1, fun q hq => Nat.ne_of_lt (Nat.lt_trans (l1 q hq) l2)⟩
    · exact ⟨(N1 _ (.tail _ (.head _))).2.2, (N1 _ (.tail _ (.head _))).2.1, fun q hq => Nat.ne_of_lt (l1 q hq)⟩
    · refine ⟨?_, fun q => ?_, fun q hq => hno _ _ (N1 q (.tail _ (.tail _ hq))).1⟩
      · cases hq : h₀.get? a with
        | none => rfl
        | some o' => exact absurd rfl (hno _ _ (F1.keep _ _ hq))
      · obtain ⟨oL, _, _, hL, _⟩ := F1.ns
        exact hno _ _ hL q.symm
end
theorem topOff_take : True := by
  w_top off
  trivial
section
variable {prog : Program} {w : World} {loose : List Str} {mean : ExcName → Option Value} {mg mb : Str → Option Value}
theorem fmod_top (x : Int) {top : Nat} (ht : 1 ≤ top) : ∃ r : Nat, r < top ∧ x.fmod top = (r : Int) := by
  have h1 := Int.fmod_nonneg_of_pos x (b := (top : Int)) (by omega)
  have h2 := Int.fmod_lt_of_pos x (b := (top : Int)) (by omega)
  exact ⟨(x.fmod top).toNat, by omega, by omega⟩
def Src (h : Heap) (a : Addr) : Prop := ∃ (x y : Int) (t1 t2 : Tok) (n : Nat), 0 ≤ y ∧ y < 2147483647 ∧ h.get? a = some (listOf #[.int x t1, .int y t2] n)
theorem take_T (sa : Addr) (top : Nat) (tt : Tok) (ht : 1 ≤ top) (ht2 : top ≤ 100) :
    Muts prog w loose mean mg mb 366 [.ref sa, .int (top : Nat) tt] 1 3 [sa] (fun h => Src h sa)
      (fun h v h' => Src h' sa ∧ ∃ (r : Nat) (t : Tok), r < top ∧ v = .int (r : Nat) t) := by
  intro A s Q E hA T X hS ret
  obtain ⟨x, y, t1, t2, n, hy0, hy1, hsa⟩ := hS
  refine' enterK [(Str.ofString "source", .ref sa), (Str.ofString "top", .int (top : Nat) tt)] (X.keeps (hideAll_ext [sa] s.heap)) (T.keeps (hideAll_ext [sa] s.heap)) ?k6 ?k7 ?k8 ?k9 ?kB ?_ ?c2 ?c3 ?c4 ?c5
  (case k6 => k_dflt k_is); (case k7 => k_dflt k_is); (case k8 => with_reducible assumption); (case k9 => exact rfl); (case kB => exact rfl); (case c5 => decide); (case c2 => exact rfl); (case c3 => exact rfl); (case c4 => exact rfl)
  intro L h₁ F0 N0 hA'
  have hoff := hid_off (foot := [sa]) F0 (fun a ha => by rw [List.mem_singleton.mp ha]; exact ⟨_, hsa⟩)
  have F := hid_fr (foot := [sa]) F0
  have N : News (hideAll s.heap [sa]) L h₁ [(sa, listOf #[.int x t1, .int y t2] n)] := off_news (hid_news (foot := [sa]) N0) hoff (.head _) (F0.keep _ _ hsa)
  clear F0 N0
  (try dsimp only); (try k_fold)
  (walk_at "mgo")
  · rename_i F5 N5
    obtain ⟨r, hr, he⟩ := fmod_top x ht
    exact ret _ _ _ (ret_mod F5) ⟨⟨_, y, _, _, _, hy0, hy1, N5.get (.head _)⟩, r, _, hr, congrArg (fun z => Value.int z _) he⟩
  · have hm : ([x, ([x, y].getD (Int.toNat 1) 0 * 39373 + 7).fmod 2147483647].getD (Int.toNat 1) 0) = (y * 39373 + 7).fmod 2147483647 := rfl
    have h1 := Int.fmod_nonneg_of_pos (y * 39373 + 7) (b := 2147483647) (by omega)
    have h2 := Int.fmod_lt_of_pos (y * 39373 + 7) (b := 2147483647) (by omega)
    rw [hm]
    have hz1 : 0 ≤ ([x, y].getD (Int.toNat 1) 0 * 39373 + 7).fmod 2147483647 := h1
    have hz2 : ([x, y].getD (Int.toNat 1) 0 * 39373 + 7).fmod 2147483647 < 2147483647 := h2
    generalize (y * 39373 + 7).fmod 2147483647 = z at h1 h2 ⊢
    refine mul_int ?_ (PySem.IntMulOk.of_left (PySem.intBits_le_64 (by omega) (by omega)))
    (try dsimp only); (try k_fold)
    (walk_at "mgo")
    with_reducible rename Fr _ _ _ _ => F5
    with_reducible rename News _ _ _ _ => N5
    obtain ⟨r, hr, he⟩ := fmod_top (((z * z).fmod 2147483629).fdiv 32) ht
    exact ret _ _ _ (ret_mod F5) ⟨⟨x, _, _, _, _, hz1, hz2, N5.get (.head _)⟩, r, _, hr, congrArg (fun z => Value.int z _) he⟩
end
theorem topOff_one : True := by
  w_top off
  trivial
section
variable {prog : Program} {w : World} {loose : List Str} {mean : ExcName → Option Value} {mg mb : Str → Option Value}
theorem one_T (sa ta : Addr) (vs : List Value) (n : Nat) (h1 : 1 ≤ vs.length) (h2 : vs.length ≤ 100) (hne : ta ≠ sa) :
    Muts prog w loose mean mg mb 373 [.ref sa, .ref ta] 2 6 [sa] (fun h => Src h sa ∧ h.get? ta = some (listOf vs.toArray n))
      (fun h v h' => Src h' sa ∧ ∃ r : Nat, vs[r]? = some v) := by
  intro A s Q E hA T X hS ret
  obtain ⟨hS, hta⟩ := hS
  refine' enterK [(Str.ofString "source", .ref sa), (Str.ofString "things", .ref ta)] (X.keeps (hideAll_ext [sa] s.heap)) (T.keeps (hideAll_ext [sa] s.heap)) ?k6 ?k7 ?k8 ?k9 ?kB ?_ ?c2 ?c3 ?c4 ?c5
  (case k6 => k_dflt k_is); (case k7 => k_dflt k_is); (case k8 => with_reducible assumption); (case k9 => exact rfl); (case kB => exact rfl); (case c5 => decide); (case c2 => exact rfl); (case c3 => exact rfl); (case c4 => exact rfl)
  intro L h₁ F0 N0 hA'
  have hoff := hid_off (foot := [sa]) F0 (fun a ha => by obtain ⟨x, y, t1, t2, n, hy0, hy1, hsa⟩ := hS; rw [List.mem_singleton.mp ha]; exact ⟨_, hsa⟩)
  have F := hid_fr (foot := [sa]) F0
  have N : News (hideAll s.heap [sa]) L h₁ [] := News.nil
  have hta0 : (hideAll s.heap [sa]).get? ta = some (listOf vs.toArray n) := hideAll_get _ hta (by simpa using hne)
  have hS1 : Src h₁ sa := by
    obtain ⟨x, y, t1, t2, n, hy0, hy1, hsa⟩ := hS
    exact ⟨x, y, t1, t2, n, hy0, hy1, F0.keep _ _ hsa⟩
  clear F0 N0
  (try dsimp only); (try k_fold)
  (walk_at "mgo")
  refine len_list_at (F.keep _ _ hta0) (by omega) fun t => ?_
  (try dsimp only); (try k_fold)
  (walk_at "mgo")
  refine (take_T sa vs.length _ h1 h2).use F N X T hoff (List.forall_mem_nil _) (hA'.le (by omega) (by omega)) hS1 fun v h5 tk5 F5 N5 hmod hpost => ?_
  obtain ⟨hS5, r, t, hr, rfl⟩ := hpost
  refine item_list_at (v := vs[r]) (F5.keep _ _ hta0) (by omega) (by omega) (by simp [hr]) ?_
  repeat walk_at "gq"
  refine ret _ _ _ (ret_mod F5) ⟨hS5, r, by simp [hr]⟩
end
theorem topOff_doc0 : True := by
  w_top off
  trivial
section
variable {prog : Program} {w : World} {loose : List Str} {mean : ExcName → Option Value} {mg mb : Str → Option Value}
/-! ## the source and the tree together -/
theorem Src.live {h : Heap} {a : Addr} (x : Src h a) : ∃ o, h.get? a = some o := by obtain ⟨_, _, _, _, _, _, _, e⟩ := x; exact ⟨_, e⟩
theorem Src.mod {h h' : Heap} {a : Addr} {foot : List Addr} (x : Src h a) (e : Mod foot h h') (hn : a ∉ foot) : Src h' a := by
  obtain ⟨p, q, t1, t2, n, h1, h2, g⟩ := x
  exact ⟨p, q, t1, t2, n, h1, h2, e _ _ g hn⟩
theorem Src.ext {h h' : Heap} {a : Addr} (x : Src h a) (e : Ext h h') : Src h' a := by
  obtain ⟨p, q, t1, t2, n, h1, h2, g⟩ := x
  exact ⟨p, q, t1, t2, n, h1, h2, e _ _ g⟩
theorem TreeAt.mod {h h' : Heap} {T : List RowD} {ad : TAd} {foot : List Addr} (x : TreeH h T ad) (e : Mod foot h h') (hn : ∀ a ∈ ad.all, a ∉ foot) : TreeH h' T ad :=
  x.congr fun a ha => by
    obtain ⟨o, ho⟩ := x.live a ha
    rw [ho, e _ _ ho (hn a ha)]
structure DocH (h : Heap) (sa : Addr) (T : List RowD) (ad : TAd) : Prop where
  src : Src h sa
  tree : TreeH h T ad
  off : sa ∉ ad.all
theorem DocH.ext {h h' : Heap} {sa : Addr} {T : List RowD} {ad : TAd} (D : DocH h sa T ad) (e : Ext h h') : DocH h' sa T ad := ⟨D.src.ext e, D.tree.ext e, D.off⟩
def dfoot (sa : Addr) (ad : TAd) : List Addr := sa :: ad.all
def MutD (prog : Program) (w : World) (loose : List Str) (mean : ExcName → Option Value) (mg mb : Str → Option Value) (f : Addr) (vs : List Value) (d u : Nat) (sa : Addr) (T : List RowD) (ad : TAd) (post : Value → List RowD → Prop) : Prop :=
  Muts prog w loose mean mg mb f vs d u (dfoot sa ad) (fun h => DocH h sa T ad) (fun h v h' => ∃ T' ad', DocH h' sa T' ad' ∧ ad'.t = ad.t ∧ (∀ a ∈ ad'.all, a ∈ ad.all ∨ h.get? a = none) ∧ post v T')
section
variable {A : Around} {E : Value → Shared → Prop} {s : Shared} {h₀ : Heap} {L : Addr} {m : Str → Option Value} {news : List (Addr × Obj)} {T : List RowD} {ad : TAd} {sa : Addr}
theorem MutD.use {f : Addr} {vs : List Value} {d u : Nat} {post : Value → List RowD → Prop} {Q : Value → Shared → Prop} (S : MutD prog w loose mean mg mb f vs d u sa T ad post)
    (F : Fr h₀ L s.heap m) (N : News h₀ L s.heap news) (X : (Mine.hd.heap_39 w.params).In h₀) (Tp : Top topProg loose mean mg mb h₀) (hoff : OffB h₀ L (dfoot sa ad)) (hn : ∀ q ∈ news, q.1 ∉ dfoot sa ad) (hA : AOk A d u) (hD : DocH s.heap sa T ad)
    (k : ∀ v T' ad' h' tk', Fr h₀ L h' m → News h₀ L h' news → OffB h₀ L (dfoot sa ad') → (∀ q ∈ news, q.1 ∉ dfoot sa ad') → DocH h' sa T' ad' → ad'.t = ad.t → post v T' → Q v { s with heap := h', toks := tk' }) : wpAny (model prog w) A (call (.ref f) vs) Q E s :=
  Muts.use S F N X Tp hoff hn hA hD fun v h' tk' F' N' _ ⟨T', ad', h1, h2, h3, h4⟩ => by
    have o1 : OffB h₀ L ad.all := fun a ha => hoff a (.tail _ ha)
    have o2 := off_grow F o1 h3
    have n2 := news_grow N (fun q hq h => hn q hq (.tail _ h)) h3
    refine k v T' ad' h' tk' F' N' (fun a ha => ?_) (fun q hq ha => ?_) h1 h2 h4
    · rcases List.mem_cons.mp ha with rfl | ha
      · exact hoff _ (.head _)
      · exact o2 a ha
    · rcases List.mem_cons.mp ha with e | ha
      · exact hn q hq (by rw [e]; exact .head _)
      · exact n2 q hq ha
theorem mutD_of {f : Addr} {vs : List Value} {d u : Nat} {post : Value → List RowD → Prop} (S : MutT prog w loose mean mg mb f vs d u T ad post) : MutD prog w loose mean mg mb f vs d u sa T ad post := fun A s Q E hA Tp X hpre ret => by
  have e : ∀ a o, (hideAll s.heap (dfoot sa ad)).get? a = some o → (hideAll s.heap ad.all).get? a = some o := fun a o h => hideAll_get _ (of_hideAll _ h) fun ha => by
    rw [show (hideAll s.heap (dfoot sa ad)).get? a = none from hideAll_none _ (List.Mem.tail _ ha)] at h; cases h
  refine S A s Q E hA (Tp.keeps e) (X.keeps e) hpre.tree fun v h' tk' hm ⟨T', ad', h1, h2, h3, h5, h4⟩ => ?_
  repeat walk_at "gq"
  refine ret v h' tk' (fun a o ha hn => hm a o ha fun q => hn (.tail _ q)) ⟨T', ad', ⟨hpre.src.mod hm hpre.off, h1, fun q => ?_⟩, h2, h3, h4⟩
  rcases h3 _ q with h6 | h6
  · exact hpre.off h6
  · obtain ⟨o, ho⟩ := hpre.src.live
    rw [ho] at h6; cases h6
/-- a draw -/
theorem take_D {top : Nat} {tt : Tok} {Q : Value → Shared → Prop} (ht : 1 ≤ top) (ht2 : top ≤ 100)
    (F : Fr h₀ L s.heap m) (N : News h₀ L s.heap news) (X : (Mine.hd.heap_39 w.params).In h₀) (Tp : Top topProg loose mean mg mb h₀) (hoff : OffB h₀ L (dfoot sa ad)) (hn : ∀ q ∈ news, q.1 ∉ dfoot sa ad) (hA : AOk A 1 3) (hD : DocH s.heap sa T ad)
    (k : ∀ (r : Nat) (t : Tok) h' tk', Fr h₀ L h' m → News h₀ L h' news → DocH h' sa T ad → r < top → Q (.int (r : Nat) t) { s with heap := h', toks := tk' }) : wpAny (model prog w) A (call (.ref 366) [.ref sa, .int (top : Nat) tt]) Q E s :=
  (take_T sa top tt ht ht2).use F N X Tp (fun a ha => by rw [List.mem_singleton.mp ha]; exact hoff _ (.head _)) (fun q hq ha => hn q hq (by rw [List.mem_singleton.mp ha]; exact .head _)) hA hD.src fun v h' tk' F' N' hm ⟨h1, r, t, hr, e⟩ => by
    subst e
    exact k r t h' tk' F' N' ⟨h1, hD.tree.mod hm fun a ha q => hD.off (by rw [← List.mem_singleton.mp q]; exact ha), hD.off⟩ hr
theorem one_D {ta : Addr} {vs : List Value} {n : Nat} {Q : Value → Shared → Prop} (h1 : 1 ≤ vs.length) (h2 : vs.length ≤ 100) (hne : ta ≠ sa) (hta : s.heap.get? ta = some (listOf vs.toArray n))
    (F : Fr h₀ L s.heap m) (N : News h₀ L s.heap news) (X : (Mine.hd.heap_39 w.params).In h₀) (Tp : Top topProg loose mean mg mb h₀) (hoff : OffB h₀ L (dfoot sa ad)) (hn : ∀ q ∈ news, q.1 ∉ dfoot sa ad) (hA : AOk A 2 6) (hD : DocH s.heap sa T ad)
    (k : ∀ (r : Nat) v h' tk', Fr h₀ L h' m → News h₀ L h' news → DocH h' sa T ad → vs[r]? = some v → Q v { s with heap := h', toks := tk' }) : wpAny (model prog w) A (call (.ref 373) [.ref sa, .ref ta]) Q E s :=
  (one_T sa ta vs n h1 h2 hne).use F N X Tp (fun a ha => by rw [List.mem_singleton.mp ha]; exact hoff _ (.head _)) (fun q hq ha => hn q hq (by rw [List.mem_singleton.mp ha]; exact .head _)) hA ⟨hD.src, hta⟩ fun v h' tk' F' N' hm ⟨h1, r, e⟩ =>
    k r v h' tk' F' N' ⟨h1, hD.tree.mod hm fun a ha q => hD.off (by rw [← List.mem_singleton.mp q]; exact ha), hD.off⟩ e
theorem one_I {ta : Addr} {vs : List Value} {els : List Nat} {n : Nat} {Q : Value → Shared → Prop} (hI : IntsAre vs (natInts els)) (h1 : 1 ≤ els.length) (h2 : els.length ≤ 100) (hm : (ta, listOf vs.toArray n) ∈ news)
    (F : Fr h₀ L s.heap m) (N : News h₀ L s.heap news) (X : (Mine.hd.heap_39 w.params).In h₀) (Tp : Top topProg loose mean mg mb h₀) (hoff : OffB h₀ L (dfoot sa ad)) (hn : ∀ q ∈ news, q.1 ∉ dfoot sa ad) (hA : AOk A 2 6) (hD : DocH s.heap sa T ad)
    (k : ∀ (e : Nat) (t : Tok) h' tk', Fr h₀ L h' m → News h₀ L h' news → DocH h' sa T ad → e ∈ els → Q (.int (e : Nat) t) { s with heap := h', toks := tk' }) : wpAny (model prog w) A (call (.ref 373) [.ref sa, .ref ta]) Q E s := by
  have hl := hI.length
  rw [natInts_length] at hl
  refine one_D (by omega) (by omega) (fun q => hn _ hm (by rw [q]; exact .head _)) (N.get hm) F N X Tp hoff hn hA hD fun r v h' tk' F' N' hD' hr => ?_
  have hrl := (List.getElem?_eq_some_iff.mp hr).1
  obtain ⟨t, ht⟩ := hI.get r ((els[r]'(by omega) : Nat) : Int) (by simp [natInts, show r < els.length by omega])
  rw [ht] at hr; cases hr
  exact k _ t h' tk' F' N' hD' (List.getElem_mem _)
/-- the source and the tree as a ledger -/
theorem docH_led {h : Heap} (hD : DocH h sa T ad) (hoff : OffB h₀ L (dfoot sa ad)) : News h₀ L h ((sa, (h.get? sa).getD (tupObj [])) :: objsAt h ad.all) := objsAt_news (l := dfoot sa ad) (fun a ha => by
  rcases List.mem_cons.mp ha with rfl | ha
  · exact hD.src.live
  · exact hD.tree.live a ha) hoff
theorem docH_now {g h : Heap} (hD : DocH g sa T ad) (N0 : News h₀ L h ((sa, (g.get? sa).getD (tupObj [])) :: objsAt g ad.all)) : DocH h sa T ad ∧ OffB h₀ L (dfoot sa ad) := by
  have N : News h₀ L h (objsAt g (dfoot sa ad)) := N0
  have live : ∀ a ∈ dfoot sa ad, ∃ o, g.get? a = some o := fun a ha => by
    rcases List.mem_cons.mp ha with rfl | ha
    · exact hD.src.live
    · exact hD.tree.live a ha
  have e := objsAt_get N (fun _ x => x) live
  refine ⟨⟨?_, hD.tree.congr fun a ha => e a (.tail _ ha), hD.off⟩, fun a ha => ?_⟩
  · obtain ⟨p, q, t1, t2, n, h1, h2, hg⟩ := hD.src
    exact ⟨p, q, t1, t2, n, h1, h2, (e _ (.head _)).trans hg⟩
  · obtain ⟨o, ho⟩ := live a ha
    have : (a, o) ∈ objsAt g (dfoot sa ad) := by
      unfold objsAt
      exact List.mem_map.mpr ⟨a, ha, by simp [ho]⟩
    exact ⟨(N _ this).2.2, (N _ this).2.1⟩
theorem allLt_mem {d : Addr} : ∀ {l : List (Addr × Obj)}, AllLt d l → ∀ p ∈ l, @LT.lt Nat _ p.1 d
  | [], _, p, hp => by cases hp
  | q :: r, h, p, hp => by
    rcases List.mem_cons.mp hp with rfl | hp
    · exact h.1
    · exact allLt_mem h.2 p hp
theorem news_app {h : Heap} {news' : List (Addr × Obj)} (N : News h₀ L h news) (N' : News h₀ L h news') : News h₀ L h (news ++ news') := fun p hp => (List.mem_append.mp hp).elim (N p) (N' p)
theorem allLt_off {h : Heap} {l : Addr} (h1 : sa < l) (h2 : AllLt l (objsAt h ad.all)) : l ∉ dfoot sa ad := fun q => by
  rcases List.mem_cons.mp q with e | q
  · rw [e] at h1; exact Nat.lt_irrefl _ h1
  · exact Nat.lt_irrefl _ (allLt_mem h2 (l, (h.get? l).getD (tupObj [])) (List.mem_map.mpr ⟨l, q, rfl⟩))
theorem news_one {h : Heap} {a : Addr} {o : Obj} (N : News h₀ L h news) (hm : (a, o) ∈ news) : News h₀ L h [(a, o)] := fun p hp => by
  rw [List.mem_singleton.mp hp]; exact N _ hm
theorem off_of_ne {g : Heap} {I : Addr} (h : ∀ p ∈ (sa, (g.get? sa).getD (tupObj [])) :: objsAt g ad.all, p.1 ≠ I) : I ∉ dfoot sa ad := fun q => by
  rcases List.mem_cons.mp q with e | q
  · exact h _ (.head _) e.symm
  · exact h (I, (g.get? I).getD (tupObj [])) (.tail _ (List.mem_map.mpr ⟨I, q, rfl⟩)) rfl
theorem small_nat {r : Nat} (h : r ≤ 1000) : Builtin.Range.small 0 (r : Int) 1 = true := small_one (by omega) (by omega) (by omega) (by omega)
end
/-- what stands between two statements of a turn of the document's loop -/
structure DocSt (h₀ : Heap) (L sa ea I : Addr) (oI : Obj) (T0 : List RowD) (t5 : Tok) (tt : Addr) (b k : Nat) (m : Str → Option Value) (h : Heap) (els : List Nat) (vs : List Value) (c : Nat) (T : List RowD) (ad : TAd) : Prop where
  F : Fr h₀ L h m
  m1 : m (Str.ofString "source") = some (.ref sa)
  m2 : m (Str.ofString "tree") = some (.ref ad.t)
  m3 : m (Str.ofString "root") = some (.int (T0.length : Nat) t5)
  m4 : m (Str.ofString "elements") = some (.ref ea)
  N : News h₀ L h [(ea, listOf vs.toArray c), (I, oI)]
  hn : ∀ q ∈ [(ea, listOf vs.toArray c), (I, oI)], q.1 ∉ dfoot sa ad
  hI : IntsAre vs (natInts els)
  doc : DocH h sa T ad
  off : OffB h₀ L (dfoot sa ad)
  inv : DocI T0.length T els b
  kept : Kept T0 T
  le0 : T0.length ≤ T.length
  pos : 1 ≤ els.length
  le : els.length ≤ k
  t : ad.t = tt
theorem grow_kid {T : List RowD} (W : Wf T) {i : Nat} {Rp : RowD} (kind name uri loc value : Str) (hi : T[i]? = some Rp) (hp : isPar Rp.kind = true) (hv : value.length ≤ 100) (h1 : kind ≠ kNs) (h2 : kind ≠ kAtt) (h3 : kind ≠ kRoot) :
    Grow T ((T ++ [newRow kind name uri loc value (some i)]).set i { Rp with kids := Rp.kids ++ [T.length] }) := by
  refine (grow_add (R := newRow kind name uri loc value (some i)) W hi rfl rfl rfl rfl hv h3 ?_).cast (by rw [show (newRow kind name uri loc value (some i)).kind = kind from rfl, addTo_kid h1 h2])
  rw [if_neg (fun h => h.elim h1 h2)]; exact hp
theorem grow_att {T : List RowD} (W : Wf T) {i : Nat} {Rp : RowD} (name uri loc value : Str) (hi : T[i]? = some Rp) (hp : Rp.kind = kElt) (hv : value.length ≤ 100) :
    Grow T ((T ++ [newRow (Str.ofString "attribute") name uri loc value (some i)]).set i { Rp with atts := Rp.atts ++ [T.length] }) := by
  refine (grow_add (R := newRow (Str.ofString "attribute") name uri loc value (some i)) W hi rfl rfl rfl rfl hv kinds_ne.2.2.2.2.2.1 ?_).cast (by rw [show (newRow (Str.ofString "attribute") name uri loc value (some i)).kind = kAtt from rfl, addTo_att])
  rw [if_pos (.inr rfl)]; exact hp
theorem grow_ns {T : List RowD} (W : Wf T) {i : Nat} {Rp : RowD} (name uri loc value : Str) (hi : T[i]? = some Rp) (hp : Rp.kind = kElt) (hv : value.length ≤ 100) :
    Grow T ((T ++ [newRow (Str.ofString "namespace") name uri loc value (some i)]).set i { Rp with nss := Rp.nss ++ [T.length] }) := by
  refine (grow_add (R := newRow (Str.ofString "namespace") name uri loc value (some i)) W hi rfl rfl rfl rfl hv kinds_ne.2.2.1 ?_).cast (by rw [show (newRow (Str.ofString "namespace") name uri loc value (some i)).kind = kNs from rfl, addTo_ns])
  rw [if_pos (.inl rfl)]; exact hp
theorem kid_kind {T : List RowD} {i : Nat} {Rp : RowD} (kind name uri loc value : Str) (R' : RowD) (hi : T[i]? = some Rp) : (rowOf ((T ++ [newRow kind name uri loc value (some i)]).set i R') T.length).kind = kind := by
  have hlt := row_lt hi
  rw [rowOf_set _ (by simp; omega), if_neg (by omega), rowOf_snoc, if_pos rfl]; rfl
theorem strs_small : (Str.ofString "").length ≤ 100 ∧ (Str.ofString "x").length ≤ 100 ∧ (Str.ofString "y z").length ≤ 100 ∧ (Str.ofString "v").length ≤ 100 ∧ (Str.ofString "k").length ≤ 100 ∧ (Str.ofString "u").length ≤ 100 ∧ (Str.ofString "w").length ≤ 100 := by decide +kernel
theorem kinds_of : Str.ofString "element" ≠ kNs ∧ Str.ofString "element" ≠ kAtt ∧ Str.ofString "element" ≠ kRoot ∧ Str.ofString "text" ≠ kNs ∧ Str.ofString "text" ≠ kAtt ∧ Str.ofString "text" ≠ kRoot ∧ Str.ofString "comment" ≠ kNs ∧ Str.ofString "comment" ≠ kAtt ∧ Str.ofString "comment" ≠ kRoot := by decide +kernel
theorem root_start {T0 : List RowD} (W : Wf T0) : Grow T0 (T0 ++ [rootRow]) := grow_root W rfl rfl rfl rfl rfl strs_small.1
theorem doc_start {T0 : List RowD} (W : Wf T0) : DocI T0.length (T0 ++ [rootRow]) [] (T0.length + 1) ∧ Kept T0 (T0 ++ [rootRow]) := by
  have G := root_start W
  refine ⟨⟨G.wf, by simp, by simp, ?_, fun e he => by cases he⟩, fun x hx => G.kind x hx⟩
  rw [rowOf_snoc, if_pos rfl]; rfl
theorem doc_start2 {T0 T2 : List RowD} (W : Wf T0) (R : RowD) (hR : R = newRow (Str.ofString "element") (Str.ofString "a") (Str.ofString "") (Str.ofString "a") (Str.ofString "") (some T0.length))
    (hT2 : T2 = (T0 ++ [rootRow] ++ [R]).set T0.length { rootRow with kids := rootRow.kids ++ [(T0 ++ [rootRow]).length] }) : DocI T0.length T2 [(T0 ++ [rootRow]).length] (T0.length + 2 + 0) ∧ Kept T0 T2 ∧ T2.length = T0.length + 2 := by
  have hr5 : (T0 ++ [rootRow])[T0.length]? = some rootRow := by simp
  obtain ⟨D, K⟩ := doc_start W
  have G := grow_kid D.wf (Str.ofString "element") (Str.ofString "a") (Str.ofString "") (Str.ofString "a") (Str.ofString "") hr5 (by decide +kernel) strs_small.1 kinds_of.1 kinds_of.2.1 kinds_of.2.2.1
  rw [← hR, ← hT2] at G
  refine ⟨(D.grow G).more (e := (T0 ++ [rootRow]).length) ?_ ?_, K.grow (by simp) G, by rw [hT2]; simp⟩
  · rw [hT2]; simp
  · rw [hT2, hR]; exact kid_kind _ _ _ _ _ _ hr5
/-- one of three texts -/
theorem str_at {a b c x : Value} {r : Nat} (h : [a, b, c][r]? = some x) : x = a ∨ x = b ∨ x = c := by
  match r, h with
  | 0, h => cases h; exact .inl rfl
  | 1, h => cases h; exact .inr (.inl rfl)
  | 2, h => cases h; exact .inr (.inr rfl)
theorem str_of3 {a b c : Str} {t1 t2 t3 : Tok} {x : Value} {r : Nat} (h : [Value.str a t1, .str b t2, .str c t3][r]? = some x) (ha : a.length ≤ 100) (hb : b.length ≤ 100) (hc : c.length ≤ 100) : ∃ y t, x = .str y t ∧ y.length ≤ 100 := by
  rcases str_at h with rfl | rfl | rfl
  · exact ⟨_, _, rfl, ha⟩
  · exact ⟨_, _, rfl, hb⟩
  · exact ⟨_, _, rfl, hc⟩
theorem str_of2 {a b : Str} {t1 t2 : Tok} {x : Value} {r : Nat} (h : [Value.str a t1, .str b t2][r]? = some x) : ∃ y t, x = .str y t := by
  match r, h with
  | 0, h => cases h; exact ⟨_, _, rfl⟩
  | 1, h => cases h; exact ⟨_, _, rfl⟩
theorem doc_off2 {h₀ h : Heap} {L sa ea I : Addr} {ad : TAd} {o oI : Obj} {rest : List (Addr × Obj)} (N : News h₀ L h rest) (h1 : (ea, o) ∈ rest) (h2 : (I, oI) ∈ rest) (e1 : ea ∉ dfoot sa ad) (e2 : I ∉ dfoot sa ad) : News h₀ L h [(ea, o), (I, oI)] ∧ ∀ q ∈ [(ea, o), (I, oI)], q.1 ∉ dfoot sa ad :=
  ⟨cb_drop N (fun p hp => by
    rcases List.mem_cons.mp hp with rfl | hp
    · exact h1
    · rw [List.mem_singleton.mp hp]; exact h2), fun q hq => by
    rcases List.mem_cons.mp hq with rfl | hq
    · exact e1
    · rw [List.mem_singleton.mp hq]; exact e2⟩
inductive DocEnd (h₀ : Heap) (L sa ea I : Addr) (oI : Obj) (T0 : List RowD) (t5 : Tok) (tt : Addr) (b k : Nat) (s : Shared) (f : Flow) (s' : Shared) : Prop
  | intro (hf : f = Flow.next) (h' : Heap) (tk' : Nat) (m' : Str → Option Value) (els' : List Nat) (vs' : List Value) (c' : Nat) (T' : List RowD) (ad' : TAd) (e : s' = { s with heap := h', toks := tk' }) (S : DocSt h₀ L sa ea I oI T0 t5 tt b k m' h' els' vs' c' T' ad') : DocEnd h₀ L sa ea I oI T0 t5 tt b k s f s'
theorem DocEnd.mk {h₀ : Heap} {L sa ea I : Addr} {oI : Obj} {T0 : List RowD} {t5 : Tok} {tt : Addr} {b k : Nat} {s s' : Shared} {h' : Heap} {tk' : Nat} {m' : Str → Option Value} {els' : List Nat} {vs' : List Value} {c' : Nat} {T' : List RowD} {ad' : TAd}
    (e : s' = { s with heap := h', toks := tk' }) (S : DocSt h₀ L sa ea I oI T0 t5 tt b k m' h' els' vs' c' T' ad') : DocEnd h₀ L sa ea I oI T0 t5 tt b k s .next s' := ⟨rfl, _, _, _, _, _, _, _, _, e, S⟩
theorem led_ne {h : Heap} {sa ea : Addr} {ad : TAd} (hn : ea ∉ dfoot sa ad) : ∀ q ∈ (sa, (h.get? sa).getD (tupObj [])) :: objsAt h ad.all, q.1 ≠ ea := fun q hq e => by
  rcases List.mem_cons.mp hq with rfl | hq
  · exact hn (by rw [← e]; exact .head _)
  · obtain ⟨a, ha, rfl⟩ := List.mem_map.mp hq
    exact hn (by rw [← e]; exact .tail _ ha)
inductive DocJ (sa ea : Addr) (T0 : List RowD) (t5 : Tok) (tt : Addr) (i : Nat) (m₁ : Str → Option Value) (news₁ : List (Addr × Obj)) : Prop
  | intro (els : List Nat) (vs : List Value) (c : Nat) (T : List RowD) (ad' : TAd) (g : Heap) (m1 : m₁ (Str.ofString "source") = some (.ref sa)) (m2 : m₁ (Str.ofString "tree") = some (.ref ad'.t)) (m3 : m₁ (Str.ofString "root") = some (.int (T0.length : Nat) t5)) (m4 : m₁ (Str.ofString "elements") = some (.ref ea))
    (e : news₁ = (ea, listOf vs.toArray c) :: (sa, (g.get? sa).getD (tupObj [])) :: objsAt g ad'.all) (hI : IntsAre vs (natInts els)) (hD : DocH g sa T ad') (he : ea ∉ dfoot sa ad') (inv : DocI T0.length T els (T0.length + 2 + i)) (kept : Kept T0 T) (pos : 1 ≤ els.length) (le : els.length ≤ 1 + i) (t : ad'.t = tt) : DocJ sa ea T0 t5 tt i m₁ news₁
theorem doc_turn {h₀ h h₃ : Heap} {L sa ea I : Addr} {oI : Obj} {T0 : List RowD} {t5 : Tok} {tt : Addr} {i tk₃ tk : Nat} {m : Str → Option Value} {els : List Nat} {vs : List Value} {c : Nat} {T : List RowD} {ad : TAd} {s : Shared} {Q : Flow → Shared → Prop}
    (F : Fr h₀ L h m) (N : News h₀ L h [(ea, listOf vs.toArray c), (I, oI)]) (hD : DocH h sa T ad) (hoff : OffB h₀ L (dfoot sa ad)) (hea : ea ∉ dfoot sa ad) (hIn : I ∉ dfoot sa ad) (hIea : ea ≠ I) (hI : IntsAre vs (natInts els)) (inv : DocI T0.length T els (T0.length + 2 + (i + 1))) (kept : Kept T0 T) (hp : 1 ≤ els.length) (hl : els.length ≤ 2 + i) (ht : ad.t = tt)
    (m1 : m (Str.ofString "source") = some (.ref sa)) (m2 : m (Str.ofString "tree") = some (.ref ad.t)) (m3 : m (Str.ofString "root") = some (.int (T0.length : Nat) t5)) (m4 : m (Str.ofString "elements") = some (.ref ea)) :
    TurnEndI h₀ L [(I, oI)] I (DocJ sa ea T0 t5 tt (i + 1)) { s with heap := h₃, toks := tk₃ } Q .next { s with heap := h, toks := tk } := by
  refine ⟨h, tk, m, [(ea, listOf vs.toArray c), (I, oI)] ++ ((sa, (h.get? sa).getD (tupObj [])) :: objsAt h ad.all), (ea, listOf vs.toArray c) :: (sa, (h.get? sa).getD (tupObj [])) :: objsAt h ad.all, rfl, F, news_app N (docH_led hD hoff), fun p hp => ?_, fun p hp => ?_, fun p hp => ?_, els, vs, c, T, ad, h, m1, m2, m3, m4, rfl, hI, hD, hea, inv, kept, hp, by omega, ht⟩
  · exact List.mem_append.mpr (.inl (.tail _ hp))
  · rcases List.mem_cons.mp hp with rfl | hp
    · exact .head _
    · exact List.mem_append.mpr (.inr hp)
  · rcases List.mem_cons.mp hp with rfl | hp
    · exact hIea
    · exact led_ne hIn p hp
theorem doc_fresh {h h₁ : Heap} {L sa : Addr} {ad ad' : TAd} (hoff : OffB (hideAll h (dfoot sa ad)) L (dfoot sa ad')) (hn : sa ∉ ad'.all) : ∀ a ∈ ad'.all, a ∈ ad.all ∨ h.get? a = none := fun a ha => by
  have h0 := (hoff a (.tail _ ha)).1
  by_cases hm : a ∈ dfoot sa ad
  · rcases List.mem_cons.mp hm with e | hm
    · exact absurd (e ▸ ha) hn
    · exact .inl hm
  · right
    cases q : h.get? a with
    | none => rfl
    | some o => rw [hideAll_get _ q hm] at h0; cases h0
end
theorem topOff_doc : True := by
  w_top off
  trivial
section
variable {prog : Program} {w : World} {loose : List Str} {mean : ExcName → Option Value} {mg mb : Str → Option Value}
theorem doc_in {s : Shared} {sa : Addr} {T : List RowD} {ad : TAd} {h₁ : Heap} {M : Str → Option Value} {L : Addr} (hD : DocH s.heap sa T ad) (F : Fr s.heap L h₁ M) : Fr (hideAll s.heap (dfoot sa ad)) L h₁ M ∧ OffB (hideAll s.heap (dfoot sa ad)) L (dfoot sa ad) ∧ DocH h₁ sa T ad :=
  ⟨hid_fr F, hid_off F (fun a ha => by
    rcases List.mem_cons.mp ha with rfl | ha
    · exact hD.src.live
    · exact hD.tree.live a ha), hD.ext F.keep⟩
theorem document_T (sa : Addr) (T0 : List RowD) (ad : TAd) (most : Nat) (tm : Tok) (W : Wf T0) (hz : T0.length ≤ 20) (h1 : 1 ≤ most) (h2 : most ≤ 8) :
    MutD prog w loose mean mg mb 387 [.ref sa, .ref ad.t, .int (most : Nat) tm] 8 24 sa T0 ad
      (fun v T' => ∃ t, v = .int (T0.length : Nat) t ∧ DocI T0.length T' [] (T0.length + 2 + most) ∧ Kept T0 T') := by
  intro A s Q E hA T X hD ret
  refine' enterK [(Str.ofString "source", .ref sa), (Str.ofString "tree", .ref ad.t), (Str.ofString "most", .int (most : Nat) tm)] (X.keeps (hideAll_ext (dfoot sa ad) s.heap)) (T.keeps (hideAll_ext (dfoot sa ad) s.heap)) ?k6 ?k7 ?k8 ?k9 ?kB ?_ ?c2 ?c3 ?c4 ?c5
  (case k6 => k_dflt k_is); (case k7 => k_dflt k_is); (case k8 => with_reducible assumption); (case k9 => exact rfl); (case kB => exact rfl); (case c5 => decide); (case c2 => exact rfl); (case c3 => exact rfl); (case c4 => exact rfl)
  intro L h₁ F0 N0 hA'
  obtain ⟨F, hoff, hD1⟩ := doc_in hD F0
  have N : News (hideAll s.heap (dfoot sa ad)) L h₁ [] := News.nil
  have hT1 := hD1.tree
  clear F0 N0
  (try dsimp only); (try k_fold)
  (walk_at "mgo")
  refine (mutD_of (new_root_T T0 ad (by omega))).use F N X T hoff (List.forall_mem_nil _) (hA'.le (by omega) (by omega)) hD1 fun v T1 ad1 h5 tk5 F5 N5 hoff5 hn5 hD5 e5 p5 => ?_
  obtain ⟨t5, rfl, rfl⟩ := p5
  have G1 : Grow T0 (T0 ++ [rootRow]) := grow_root W rfl rfl rfl rfl rfl (by decide)
  clear F N hoff hD1 hT1 N5 hn5
  generalize hq9 : ad.t = t9 at e5 F5 ⊢
  subst e5
  have hT5 := hD5.tree
  have N5 := docH_led hD5 hoff5
  have hr5 : (T0 ++ [rootRow])[T0.length]? = some rootRow := by simp
  (try dsimp only); (try k_fold)
  (walk_at "mgo")
  with_reducible rename Fr _ _ _ _ => F5
  with_reducible rename News _ _ _ _ => N5
  replace hD5 := (docH_now hD5 N5).1
  refine (mutD_of (add_element_T (T0 ++ [rootRow]) ad1 T0.length rootRow _ _ _ _ _ _ _ hr5 (by decide) (by simp; omega) (by decide))).use F5 News.nil X T hoff5 (List.forall_mem_nil _) (hA'.le (by omega) (by omega)) hD5 fun v T2 ad2 h6 tk6 F6 N6 hoff6 hn6 hD6 e6 p6 => ?_
  obtain ⟨t6, rfl, hT2⟩ := p6
  clear F5 N5 hoff5 hD5 hT5 N6 hn6
  generalize hq8 : ad1.t = t8 at e6 F6 ⊢
  subst e6
  have N6 := docH_led hD6 hoff6
  (try dsimp only); (try k_fold)
  (walk_at "mgo")
  with_reducible rename Fr _ _ _ _ => F7
  with_reducible rename News _ _ _ _ => N7
  with_reducible rename (_ ∧ AllLt _ _) => l7
  rename_i ea _ _
  replace hD6 := (docH_now hD6 (cb_drop N7 (fun p hp => .tail _ hp))).1
  have hea := allLt_off l7.1 l7.2
  have N8 := news_one N7 (.head _)
  have hn8 : ∀ q ∈ [(ea, PySem.W.listOf #[Value.int (↑(T0 ++ [rootRow]).length) t6] 0)], q.1 ∉ dfoot sa ad2 := fun q hq => by rw [List.mem_singleton.mp hq]; exact hea
  clear N7 l7
  refine take_D h1 (by omega) F7 N8 X T hoff6 hn8 (hA'.le (by omega) (by omega)) hD6 fun r tr h9 tk9 F9 N9 hD9 hr => ?_
  clear F7 N8 hD6
  (try dsimp only); (try k_fold)
  (repeat' (first | (walk_at "mrng"; walk_at "mman"; walk_at "mw")))
  with_reducible rename Fr _ _ _ _ => F10
  with_reducible rename News _ _ _ _ => N10
  refine range1_rows F10 N10 ?_
  intro h11 tk11 tr1 tr2 tr3 hR11 F11 N11 k11
  have hD11 := hD9.ext k11
  obtain ⟨hI2, hK2, hL2⟩ := doc_start2 W _ rfl hT2
  clear F10 N10 hD9
  refine loop_rangeI (n := r) (news := (ea, PySem.W.listOf #[Value.int (↑(T0 ++ [rootRow]).length) t6] 0) :: (sa, (h11.get? sa).getD (tupObj [])) :: objsAt h11 ad2.all) (DocJ sa ea T0 t5 ad2.t)
    hA'.hd hR11 (small_nat (by omega)) (by rw [rangeSize_nat]; simp) F11 (news_app N11 (docH_led hD11 hoff6)) (fun p hp => hp) ⟨_, _, _, T2, ad2, h11, rfl, rfl, rfl, rfl, rfl, .cons _ _ .nil, hD11, hea, hI2, hK2, by simp, by simp, rfl⟩ ?_ ?_
  · rintro i ti m₁ news₁ h₃ tk₃ I oI hi ⟨els, vs, c, T3, ad3, g, hm1, hm2, hm3, hm4, rfl, hIe, hDg, hea3, hI3, hK3, hle1, hle2, ht3⟩ hcl hne F3 N3
    obtain ⟨hD3, hoff3⟩ := docH_now hDg (cb_drop N3 (fun p hp => .tail _ (.tail _ hp)))
    have hIea : ea ≠ I := hne _ (.head _)
    have hI3n := off_of_ne (fun p hp => hne p (.tail _ hp))
    have N4 : News (hideAll s.heap (dfoot sa ad)) L h₃ [(ea, listOf vs.toArray c), (I, oI)] := cb_drop N3 (fun p hp => by
      rcases List.mem_cons.mp hp with rfl | hp
      · exact .tail _ (.head _)
      · rw [List.mem_singleton.mp hp]; exact .head _)
    have hn4 : ∀ q ∈ [(ea, listOf vs.toArray c), (I, oI)], q.1 ∉ dfoot sa ad3 := fun q hq => by
      rcases List.mem_cons.mp hq with rfl | hq
      · exact hea3
      · rw [List.mem_singleton.mp hq]; exact hI3n
    have F4 := fr_look [(Str.ofString "source", .ref sa), (Str.ofString "tree", .ref ad3.t), (Str.ofString "root", .int (T0.length : Nat) t5), (Str.ofString "elements", .ref ea)] F3 (List.forall_mem_cons.mpr ⟨by first | rfl | assumption, List.forall_mem_cons.mpr ⟨by first | rfl | assumption, List.forall_mem_cons.mpr ⟨by first | rfl | assumption, List.forall_mem_cons.mpr ⟨by first | rfl | assumption, List.forall_mem_nil _⟩⟩⟩⟩)
    clear F3 N3 hDg F11 N11 hD11 hR11 k11 hne
    have hLe : 1 ≤ els.length ∧ els.length ≤ 100 := ⟨hle1, by omega⟩
    (try dsimp only); (try k_fold)
    (repeat' (first | (walk_at "mrng"; walk_at "mman"; walk_at "mw")))
    refine one_I hIe hLe.1 hLe.2 (.head _) F4 N4 X T hoff3 hn4 (hA'.le (by omega) (by omega)) hD3 fun pe tpe h5 tk5 F5 N5 hD5 hpe => ?_
    clear F4 N4 hD3
    (try dsimp only); (try k_fold)
    (repeat' (first | (walk_at "mrng"; walk_at "mman"; walk_at "mw")))
    refine take_D (top := 6) (by omega) (by omega) F5 N5 X T hoff3 hn4 (hA'.le (by omega) (by omega)) hD5 fun wy twy h6 tk6 F6 N6 hD6 hwy => ?_
    replace N6 : News (hideAll s.heap (dfoot sa ad)) L h6 ((ea, listOf vs.toArray c) :: (I, oI) :: (sa, (h6.get? sa).getD (tupObj [])) :: objsAt h6 ad3.all) := news_app N6 (docH_led hD6 hoff3)
    clear F5 N5 hD5
    (try dsimp only); (try k_fold)
    (repeat' (first | (walk_at "mifs"; walk_at "mrng"; walk_at "mman"; walk_at "mw")))
    with_reducible rename Fr _ _ _ _ => F7
    with_reducible rename News _ _ _ _ => N7
    replace hD6 := (docH_now hD6 (cb_drop N7 (fun p hp => .tail _ (.tail _ (.tail _ hp))))).1
    have N8 : News (hideAll s.heap (dfoot sa ad)) L _ [(ea, listOf vs.toArray c), (I, oI)] := cb_drop N7 (fun p hp => by
      rcases List.mem_cons.mp hp with rfl | hp
      · exact .tail _ (.head _)
      · rw [List.mem_singleton.mp hp]; exact .tail _ (.tail _ (.head _)))
    clear N7
    obtain ⟨Re, hRe, hke, hpar, hkl, hal, hnl, hav, hnv, j, hj⟩ := hI3.el hpe
    have hT3l := hI3.le
    have hK0 := hI3.lt
    refine wpAny_mono (Q := DocEnd (hideAll s.heap (dfoot sa ad)) L sa ea I oI T0 t5 ad2.t (T0.length + 2 + i + 1) (2 + i) s) ?_ ?_ (fun _ _ e => e)
    · replace N8 : News (hideAll s.heap (dfoot sa ad)) L _ ((ea, listOf vs.toArray c) :: (I, oI) :: (sa, (Heap.get? _ sa).getD (tupObj [])) :: objsAt _ ad3.all) := news_app N8 (docH_led hD6 hoff3)
      have hvl := hIe.length
      rw [natInts_length] at hvl
      (try dsimp only); (try k_fold)
      have hT6 := hD6.tree
      (repeat' (first | (walk_at "mrng"; walk_at "mman"; walk_at "mw")))
      · with_reducible rename Fr _ _ _ _ => F8
        with_reducible rename News _ _ _ _ => N8
        replace hD6 := (docH_now hD6 (cb_drop N8 (fun p hp => .tail _ (.tail _ hp)))).1
        obtain ⟨N9, hn9⟩ := doc_off2 N8 (.head _) (.tail _ (.head _)) hea3 hI3n
        clear N8 hT6
        refine (mutD_of (add_element_T T3 ad3 pe Re _ _ _ _ _ _ _ hRe hpar (by omega) (by omega))).use F8 N9 X T hoff3 hn9 (hA'.le (by omega) (by omega)) hD6 fun v T4 ad4 h10 tk10 F10 N10 hoff10 hn10 hD10 e10 p10 => ?_
        obtain ⟨t10, rfl, hT4⟩ := p10
        have G : Grow T3 T4 := hT4 ▸ grow_kid hI3.wf _ _ _ _ _ hRe hpar strs_small.1 kinds_of.1 kinds_of.2.1 kinds_of.2.2.1
        have hk4 : (rowOf T4 T3.length).kind = kElt := by rw [hT4]; exact kid_kind _ _ _ _ _ _ hRe
        have hl4 : T3.length < T4.length := by rw [hT4]; simp
        clear F8 N9 hD6
        (try dsimp only); (try k_fold)
        (repeat' (first | (walk_at "mrng"; walk_at "mman"; walk_at "mw")))
        replace N10 : News (hideAll s.heap (dfoot sa ad)) L h10 ((ea, listOf vs.toArray c) :: (I, oI) :: (sa, (h10.get? sa).getD (tupObj [])) :: objsAt h10 ad4.all) := news_app N10 (docH_led hD10 hoff10)
        have hea4 := hn10 _ (.head _)
        have hI4 := hn10 _ (.tail _ (.head _))
        refine append_K F10 N10 (.head (fun q hq => by
          rcases List.mem_cons.mp hq with rfl | hq
          · exact Ne.symm hIea
          · exact led_ne hea4 q hq)) ?_ (by rw [sizeLine_eq]; simp; omega)
        intro h11 F11 N11
        have hD11 := (docH_now hD10 (cb_drop N11 (fun p hp => .tail _ (.tail _ hp)))).1
        simp only [List.push_toArray] at N11
        obtain ⟨N12, hn12⟩ := doc_off2 N11 (.head _) (.tail _ (.head _)) hea4 hI4
        clear F10 N10 N11
        (try dsimp only); (try k_fold)
        (repeat' (first | (walk_at "mrng"; walk_at "mman"; walk_at "mw")))
        exact .mk rfl ⟨F11, rfl, by rw [e10]; rfl, rfl, rfl, N12, hn12, ints_snoc hIe, hD11, hoff10, (hI3.grow G).more hl4 hk4, hK3.grow (by omega) G, by have := G.le; omega, by simp, by simp; omega, e10.trans ht3⟩
      · with_reducible rename Fr _ _ _ _ => F8
        with_reducible rename News _ _ _ _ => N8
        with_reducible rename (_ ∧ _ ∧ _ ∧ AllLt _ _) => l8
        replace hD6 := (docH_now hD6 (cb_drop N8 (fun p hp => .tail _ (.tail _ (.tail _ hp))))).1
        obtain ⟨N9, hn9⟩ := doc_off2 N8 (.tail _ (.head _)) (.tail _ (.tail _ (.head _))) hea3 hI3n
        have hta := N8.get (.head _)
        have hne8 := Nat.ne_of_gt l8.2.2.1
        clear N8 hT6 l8
        refine one_D (by simp) (by simp) hne8 hta F8 N9 X T hoff3 hn9 (hA'.le (by omega) (by omega)) hD6 fun ix xv h9 tk9 F9 N9 hD9 hix => ?_
        obtain ⟨tx, ttx, rfl, htx⟩ := str_of3 hix strs_small.2.1 strs_small.2.2.1 strs_small.1
        replace N9 : News (hideAll s.heap (dfoot sa ad)) L h9 ((ea, listOf vs.toArray c) :: (I, oI) :: (sa, (h9.get? sa).getD (tupObj [])) :: objsAt h9 ad3.all) := news_app N9 (docH_led hD9 hoff3)
        have hT9 := hD9.tree
        clear F8 hD6 hta
        (try dsimp only); (try k_fold)
        (repeat' (first | (walk_at "mrng"; walk_at "mman"; walk_at "mw")))
        with_reducible rename Fr _ _ _ _ => F9
        with_reducible rename News _ _ _ _ => N9
        replace hD9 := (docH_now hD9 (cb_drop N9 (fun p hp => .tail _ (.tail _ hp)))).1
        obtain ⟨N9, hn9⟩ := doc_off2 N9 (.head _) (.tail _ (.head _)) hea3 hI3n
        clear hT9
        refine (mutD_of (add_text_T T3 ad3 pe Re _ _ tx hRe hpar (by omega) (by omega))).use F9 N9 X T hoff3 hn9 (hA'.le (by omega) (by omega)) hD9 fun v T4 ad4 h10 tk10 F10 N10 hoff10 hn10 hD10 e10 p10 => ?_
        obtain ⟨t10, rfl, hT4⟩ := p10
        have G : Grow T3 T4 := hT4 ▸ grow_kid hI3.wf _ _ _ _ _ hRe hpar htx kinds_of.2.2.2.1 kinds_of.2.2.2.2.1 kinds_of.2.2.2.2.2.1
        clear F9 N9 hD9
        (try dsimp only); (try k_fold)
        (repeat' (first | (walk_at "mrng"; walk_at "mman"; walk_at "mw")))
        exact .mk rfl ⟨F10, rfl, by rw [e10]; rfl, rfl, rfl, N10, hn10, hIe, hD10, hoff10, hI3.grow G, hK3.grow (by omega) G, by have := G.le; omega, hle1, by omega, e10.trans ht3⟩
      · with_reducible rename Fr _ _ _ _ => F8
        with_reducible rename News _ _ _ _ => N8
        with_reducible rename (_ ∧ _ ∧ _ ∧ AllLt _ _) => l8
        replace hD6 := (docH_now hD6 (cb_drop N8 (fun p hp => .tail _ (.tail _ (.tail _ hp))))).1
        obtain ⟨N9, hn9⟩ := doc_off2 N8 (.tail _ (.head _)) (.tail _ (.tail _ (.head _))) hea3 hI3n
        have hta := N8.get (.head _)
        have hne8 := Nat.ne_of_gt l8.2.2.1
        clear N8 hT6 l8
        refine one_D (by simp) (by simp) hne8 hta F8 N9 X T hoff3 hn9 (hA'.le (by omega) (by omega)) hD6 fun ix xv h9 tk9 F9 N9 hD9 hix => ?_
        obtain ⟨tx, ttx, rfl⟩ := str_of2 hix
        replace N9 : News (hideAll s.heap (dfoot sa ad)) L h9 ((ea, listOf vs.toArray c) :: (I, oI) :: (sa, (h9.get? sa).getD (tupObj [])) :: objsAt h9 ad3.all) := news_app N9 (docH_led hD9 hoff3)
        have hT9 := hD9.tree
        clear F8 hD6 hta
        (try dsimp only); (try k_fold)
        (repeat' (first | (walk_at "mrng"; walk_at "mman"; walk_at "mw")))
        with_reducible rename Fr _ _ _ _ => F9
        with_reducible rename News _ _ _ _ => N9
        replace hD9 := (docH_now hD9 (cb_drop N9 (fun p hp => .tail _ (.tail _ hp)))).1
        obtain ⟨N9, hn9⟩ := doc_off2 N9 (.head _) (.tail _ (.head _)) hea3 hI3n
        clear hT9
        refine (mutD_of (set_attribute_T T3 ad3 pe Re _ _ _ _ _ tx _ tx _ hRe hke (by omega) (by omega) hav)).use F9 N9 X T hoff3 hn9 (hA'.le (by omega) (by omega)) hD9 fun v T4 ad4 h10 tk10 F10 N10 hoff10 hn10 hD10 e10 p10 => ?_
        have G : Grow T3 T4 := by
          rcases p10 with ⟨n, Rn, hn, hRn, _, _, hT4⟩ | ⟨_, hT4⟩
          · exact hT4 ▸ grow_val hI3.wf hRn rfl rfl rfl rfl rfl strs_small.2.2.2.1
          · exact hT4 ▸ grow_att hI3.wf _ _ _ _ hRe hke strs_small.2.2.2.1
        clear F9 N9 hD9
        (try dsimp only); (try k_fold)
        (repeat' (first | (walk_at "mrng"; walk_at "mman"; walk_at "mw")))
        exact .mk rfl ⟨F10, rfl, by rw [e10]; rfl, rfl, rfl, N10, hn10, hIe, hD10, hoff10, hI3.grow G, hK3.grow (by omega) G, by have := G.le; omega, hle1, by omega, e10.trans ht3⟩
      · with_reducible rename Fr _ _ _ _ => F8
        with_reducible rename News _ _ _ _ => N8
        with_reducible rename (_ ∧ _ ∧ _ ∧ AllLt _ _) => l8
        replace hD6 := (docH_now hD6 (cb_drop N8 (fun p hp => .tail _ (.tail _ (.tail _ hp))))).1
        obtain ⟨N9, hn9⟩ := doc_off2 N8 (.tail _ (.head _)) (.tail _ (.tail _ (.head _))) hea3 hI3n
        have hta := N8.get (.head _)
        have hne8 := Nat.ne_of_gt l8.2.2.1
        clear N8 hT6 l8
        refine one_D (by simp) (by simp) hne8 hta F8 N9 X T hoff3 hn9 (hA'.le (by omega) (by omega)) hD6 fun ix xv h9 tk9 F9 N9 hD9 hix => ?_
        obtain ⟨tx, ttx, rfl, htx⟩ := str_of3 hix strs_small.1 strs_small.1 strs_small.2.1
        replace N9 : News (hideAll s.heap (dfoot sa ad)) L h9 ((ea, listOf vs.toArray c) :: (I, oI) :: (sa, (h9.get? sa).getD (tupObj [])) :: objsAt h9 ad3.all) := news_app N9 (docH_led hD9 hoff3)
        have hT9 := hD9.tree
        clear F8 hD6 hta
        (try dsimp only); (try k_fold)
        (repeat' (first | (walk_at "mrng"; walk_at "mman"; walk_at "mw")))
        all_goals (
          with_reducible rename Fr _ _ _ _ => F8
          with_reducible rename News _ _ _ _ => N8
          with_reducible rename (_ ∧ _ ∧ _ ∧ AllLt _ _) => l8
          replace hD9 := (docH_now hD9 (cb_drop N8 (fun p hp => .tail _ (.tail _ (.tail _ hp))))).1
          obtain ⟨N9, hn9⟩ := doc_off2 N8 (.tail _ (.head _)) (.tail _ (.tail _ (.head _))) hea3 hI3n
          have hta := N8.get (.head _)
          have hne8 := Nat.ne_of_gt l8.2.2.1
          clear N8 hT9 l8
          refine one_D (by simp) (by simp) hne8 hta F8 N9 X T hoff3 hn9 (hA'.le (by omega) (by omega)) hD9 fun ix2 xv2 h12 tk12 F12 N12 hD12 hix2 => ?_
          obtain ⟨ux, tux, rfl, hux⟩ := str_of3 hix2 strs_small.2.2.2.2.2.1 strs_small.2.2.2.2.2.2 (by first | exact strs_small.2.2.2.2.2.1 | exact strs_small.1)
          clear F8 hD9 hta N9
          (try dsimp only); (try k_fold)
          (repeat' (first | (walk_at "mrng"; walk_at "mman"; walk_at "mw")))
          with_reducible rename Fr _ _ _ _ => F9
          with_reducible rename News _ _ _ _ => N9
          refine (mutD_of (add_namespace_T T3 ad3 pe Re _ _ _ tx ux hRe hke (by omega) (by omega) hnv)).use F9 N9 X T hoff3 hn9 (hA'.le (by omega) (by omega)) hD12 fun v T4 ad4 h10 tk10 F10 N10 hoff10 hn10 hD10 e10 p10 => ?_
          have G : Grow T3 T4 := by
            rcases p10 with ⟨n, Rn, hn, hRn, _, hT4⟩ | ⟨_, hT4⟩
            · exact hT4 ▸ grow_val hI3.wf hRn rfl rfl rfl rfl rfl hux
            · exact hT4 ▸ grow_ns hI3.wf _ _ _ _ hRe hke hux
          clear F9 N9 hD12
          (try dsimp only); (try k_fold)
          (repeat' (first | (walk_at "mrng"; walk_at "mman"; walk_at "mw")))
          exact .mk rfl ⟨F10, rfl, by rw [e10]; rfl, rfl, rfl, N10, hn10, hIe, hD10, hoff10, hI3.grow G, hK3.grow (by omega) G, by have := G.le; omega, hle1, by omega, e10.trans ht3⟩)
      · with_reducible rename Fr _ _ _ _ => F8
        with_reducible rename News _ _ _ _ => N8
        replace hD6 := (docH_now hD6 (cb_drop N8 (fun p hp => .tail _ (.tail _ hp)))).1
        obtain ⟨N9, hn9⟩ := doc_off2 N8 (.head _) (.tail _ (.head _)) hea3 hI3n
        clear N8 hT6
        refine (mutD_of (add_comment_T T3 ad3 pe Re _ _ _ hRe hpar (by omega) (by omega))).use F8 N9 X T hoff3 hn9 (hA'.le (by omega) (by omega)) hD6 fun v T4 ad4 h10 tk10 F10 N10 hoff10 hn10 hD10 e10 p10 => ?_
        obtain ⟨t10, rfl, hT4⟩ := p10
        have G : Grow T3 T4 := hT4 ▸ grow_kid hI3.wf _ _ _ _ _ hRe hpar strs_small.2.2.2.2.1 kinds_of.2.2.2.2.2.2.1 kinds_of.2.2.2.2.2.2.2.1 kinds_of.2.2.2.2.2.2.2.2
        clear F8 N9 hD6
        (try dsimp only); (try k_fold)
        (repeat' (first | (walk_at "mrng"; walk_at "mman"; walk_at "mw")))
        exact .mk rfl ⟨F10, rfl, by rw [e10]; rfl, rfl, rfl, N10, hn10, hIe, hD10, hoff10, hI3.grow G, hK3.grow (by omega) G, by have := G.le; omega, hle1, by omega, e10.trans ht3⟩
    · rintro f s' ⟨rfl, h', tk', m', els', vs', c', T', ad', rfl, St⟩
      obtain ⟨F0, hm1, hm2, hm3, hm4, N1, hn1, hI1, hD1, hoff1, inv1, kept1, le01, pos1, lek1, ht1⟩ := St
      have F1 := fr_look [(Str.ofString "source", .ref sa), (Str.ofString "tree", .ref ad'.t), (Str.ofString "root", .int (T0.length : Nat) t5), (Str.ofString "elements", .ref ea)] F0 (List.forall_mem_cons.mpr ⟨by first | rfl | assumption, List.forall_mem_cons.mpr ⟨by first | rfl | assumption, List.forall_mem_cons.mpr ⟨by first | rfl | assumption, List.forall_mem_cons.mpr ⟨by first | rfl | assumption, List.forall_mem_nil _⟩⟩⟩⟩)
      have hea1 := hn1 _ (.head _)
      have hI1n := hn1 _ (.tail _ (.head _))
      clear F7 F0 N8 hD6 hoff3
      (try dsimp only)
      (try k_fold)
      (repeat' (first | (walk_at "mrng"; walk_at "mman"; walk_at "mw")))
      refine one_I hI1 pos1 (by omega) (.head _) F1 N1 X T hoff1 hn1 (hA'.le (by omega) (by omega)) hD1 fun mv tmv h5 tk5 F5 N5 hD5 hmv => ?_
      clear F1 N1 hD1
      replace N5 : News (hideAll s.heap (dfoot sa ad)) L h5 ((ea, listOf vs'.toArray c') :: (I, oI) :: (sa, (h5.get? sa).getD (tupObj [])) :: objsAt h5 ad'.all) := news_app N5 (docH_led hD5 hoff1)
      (try dsimp only); (try k_fold)
      (repeat' (first | (walk_at "mrng"; walk_at "mman"; walk_at "mw")))
      with_reducible rename Fr _ _ _ _ => F1
      with_reducible rename News _ _ _ _ => N1
      replace hD5 := (docH_now hD5 (cb_drop N1 (fun p hp => .tail _ (.tail _ hp)))).1
      obtain ⟨N1, hn1⟩ := doc_off2 N1 (.head _) (.tail _ (.head _)) hea1 hI1n
      refine one_I hI1 pos1 (by omega) (.head _) F1 N1 X T hoff1 hn1 (hA'.le (by omega) (by omega)) hD5 fun gl tgl h6 tk6 F6 N6 hD6 hgl => ?_
      clear F1 N1 hD5
      replace N6 : News (hideAll s.heap (dfoot sa ad)) L h6 ((ea, listOf vs'.toArray c') :: (I, oI) :: (sa, (h6.get? sa).getD (tupObj [])) :: objsAt h6 ad'.all) := news_app N6 (docH_led hD6 hoff1)
      (try dsimp only); (try k_fold)
      (repeat' (first | (walk_at "mrng"; walk_at "mman"; walk_at "mw")))
      with_reducible rename Fr _ _ _ _ => F1
      with_reducible rename News _ _ _ _ => N1
      replace hD6 := (docH_now hD6 (cb_drop N1 (fun p hp => .tail _ (.tail _ hp)))).1
      obtain ⟨N1, hn1⟩ := doc_off2 N1 (.head _) (.tail _ (.head _)) hea1 hI1n
      refine take_D (top := 3) (by omega) (by omega) F1 N1 X T hoff1 hn1 (hA'.le (by omega) (by omega)) hD6 fun r3 tr3 h7 tk7 F7 N7 hD7 hr3 => ?_
      clear F1 N1 hD6
      replace N7 : News (hideAll s.heap (dfoot sa ad)) L h7 ((ea, listOf vs'.toArray c') :: (I, oI) :: (sa, (h7.get? sa).getD (tupObj [])) :: objsAt h7 ad'.all) := news_app N7 (docH_led hD7 hoff1)
      have hT7 := hD7.tree
      obtain ⟨Rm, hRm, hkm, hparm, hklm, _, _, _, _, jm, hjm⟩ := inv1.el hmv
      obtain ⟨Rg, hRg, hkg, hparg, hklg, _, _, _, _, jg, hjg⟩ := inv1.el hgl
      (try dsimp only); (try k_fold)
      (repeat' (first | (walk_at "mrng"; walk_at "mman"; walk_at "mw")))
      · obtain ⟨lg, hcg, hug⟩ := inv1.up hgl
        (refine' Reads1.use (parent_S T' ad' mv Rm _ hRm) ?F9 ?N9 ?X9 ?T9 ?A9 ?p9 ?_; (case F9 => with_reducible assumption); (case N9 => with_reducible assumption); (case X9 => with_reducible assumption); (case T9 => with_reducible assumption); (case A9 => (walk_at "mA")); (case p9 => (walk_at "mT"))); intro v9 h9 tk9 F9 N9 e9 p9; skip; (try dsimp only)
        rw [hjm] at p9
        obtain ⟨tp, rfl⟩ := p9
        replace hD7 := hD7.ext e9
        clear e9
        (repeat' (first | (walk_at "mrng"; walk_at "mman"; walk_at "mw")))
        · with_reducible rename Fr _ _ _ _ => F1
          with_reducible rename News _ _ _ _ => N1
          (refine' Reads1.use (is_above_S T' ad' mv gl lg _ _ hug) ?F9 ?N9 ?X9 ?T9 ?A9 ?p9 ?_; (case F9 => with_reducible assumption); (case N9 => with_reducible assumption); (case X9 => with_reducible assumption); (case T9 => with_reducible assumption); (case A9 => (walk_at "mA")); (case p9 => (walk_at "mT"))); intro v9 h9 tk9 F9 N9 e9 p9; subst p9; (try dsimp only)
          replace hD7 := hD7.ext e9
          clear F1 N1 e9
          by_cases hil : mv ∈ lg
          · rw [decide_eq_true hil]
            (repeat' (first | (walk_at "mrng"; walk_at "mman"; walk_at "mw")))
            with_reducible rename Fr _ _ _ _ => F1
            with_reducible rename News _ _ _ _ => N1
            obtain ⟨N1, hn1⟩ := doc_off2 N1 (.head _) (.tail _ (.head _)) hea1 hI1n
            exact doc_turn F1 N1 hD7 hoff1 hea1 hI1n hIea hI1 (inv1.le_b (by omega)) kept1 pos1 lek1 ht1 rfl rfl rfl rfl
          · rw [decide_eq_false hil]
            (repeat' (first | (walk_at "mrng"; walk_at "mman"; walk_at "mw")))
            with_reducible rename Fr _ _ _ _ => F1
            with_reducible rename News _ _ _ _ => N1
            obtain ⟨N1, hn1⟩ := doc_off2 N1 (.head _) (.tail _ (.head _)) hea1 hI1n
            obtain ⟨Rjm, M⟩ := inv1.mv hmv hRm hRg hjm hcg hug hil
            obtain ⟨Rq1, mq1, mq2, mq3, _⟩ := mv_rows M
            have hb1 := inv1.le
            refine (mutD_of (move_T T' (mvT1 T' mv jm Rm Rjm) ad' mv jm gl Rm Rjm Rg Rq1 lg _ _ _ hRm hjm M.hj hRg hkm M.hm M.hij hparg hug hil rfl mq1 (by rw [mq2]; exact hparg) (mv_up M.hj hug hil) (by omega))).use F1 N1 X T hoff1 hn1 (hA'.le (by omega) (by omega)) hD7 fun v T4 ad4 h10 tk10 F10 N10 hoff10 hn10 hD10 e10 p10 => ?_
            have G : Grow T' T4 := p10 ▸ grow_move inv1.wf M hkm hparg mq1
            have hL4 : T4.length = T'.length := by rw [p10]; simp [mvT1]
            clear F1 N1 hD7
            (try dsimp only); (try k_fold)
            (repeat' (first | (walk_at "mrng"; walk_at "mman"; walk_at "mw")))
            exact doc_turn F10 N10 hD10 hoff10 (hn10 _ (.head _)) (hn10 _ (.tail _ (.head _))) hIea hI1 ⟨G.wf, by have := inv1.lt; omega, by omega, (G.kind _ inv1.lt).trans inv1.rk, fun e he => ⟨by have := (inv1.els e he).1; omega, (G.kind e (inv1.els e he).1).trans (inv1.els e he).2⟩⟩ (kept1.grow le01 G) pos1 lek1 (e10.trans ht1) rfl (by rw [e10]; rfl) rfl rfl
        · with_reducible rename Fr _ _ _ _ => F1
          with_reducible rename News _ _ _ _ => N1
          obtain ⟨N1, hn1⟩ := doc_off2 N1 (.head _) (.tail _ (.head _)) hea1 hI1n
          exact doc_turn F1 N1 hD7 hoff1 hea1 hI1n hIea hI1 (inv1.le_b (by omega)) kept1 pos1 lek1 ht1 rfl rfl rfl rfl
      · with_reducible rename Fr _ _ _ _ => F1
        with_reducible rename News _ _ _ _ => N1
        replace hD7 := (docH_now hD7 (cb_drop N1 (fun p hp => .tail _ (.tail _ hp)))).1
        obtain ⟨N1, hn1⟩ := doc_off2 N1 (.head _) (.tail _ (.head _)) hea1 hI1n
        exact doc_turn F1 N1 hD7 hoff1 hea1 hI1n hIea hI1 (inv1.le_b (by omega)) kept1 pos1 lek1 ht1 rfl rfl rfl rfl
  · rintro m₁ news₁ h₃ tk₃ ⟨els, vs, c, T3, ad3, g, hm1, hm2, hm3, hm4, rfl, hIe, hDg, hea3, hI3, hK3, hle1, hle2, ht3⟩ F3 N3
    obtain ⟨hD3, hoff3⟩ := docH_now hDg (cb_drop N3 (fun p hp => .tail _ hp))
    have F4 := fr_look [(Str.ofString "source", .ref sa), (Str.ofString "tree", .ref ad3.t), (Str.ofString "root", .int (T0.length : Nat) t5), (Str.ofString "elements", .ref ea)] F3 (List.forall_mem_cons.mpr ⟨by first | rfl | assumption, List.forall_mem_cons.mpr ⟨by first | rfl | assumption, List.forall_mem_cons.mpr ⟨by first | rfl | assumption, List.forall_mem_cons.mpr ⟨by first | rfl | assumption, List.forall_mem_nil _⟩⟩⟩⟩)
    clear F3 F11 N11 hD11 hR11 k11
    dsimp only
    (try k_fold)
    (repeat' (first | (walk_at "mrng"; walk_at "mman"; walk_at "mw")))
    repeat walk_at "gq"
    exact ret _ _ _ (ret_mod F4) ⟨T3, ad3, hD3, ht3.trans (hq8.symm.trans hq9.symm), doc_fresh (h₁ := h₃) hoff3 hD3.off, t5, rfl, ⟨hI3.wf, hI3.lt, by have := hI3.le; omega, hI3.rk, fun e he => by cases he⟩, hK3⟩
end
theorem topOff_pool : True := by
  w_top off
  trivial
section
variable {prog : Program} {w : World} {loose : List Str} {mean : ExcName → Option Value} {mg mb : Str → Option Value}
def PoolObj (o : Obj) : Prop := ∃ (x y : Int) (t1 t2 : Tok) (n : Nat), 0 ≤ y ∧ y < 2147483647 ∧ o = listOf #[.int x t1, .int y t2] n
inductive PoolSt (h₀ : Heap) (L : Addr) (tk : Tok) (s : Shared) (f : Flow) (s' : Shared) : Prop
  | intro (hf : f = Flow.next) (h' : Heap) (tk' : Nat) (m' : Str → Option Value) (z : Int) (t : Tok) (e : s' = { s with heap := h', toks := tk' }) (F : Fr h₀ L h' m') (m1 : m' (Str.ofString "cell") = some (.int z t)) (m2 : m' (Str.ofString "k") = some (.int 0 tk)) (N : News h₀ L h' []) : PoolSt h₀ L tk s f s'
theorem PoolSt.mk {h₀ : Heap} {L : Addr} {tk : Tok} {s s' : Shared} {h' : Heap} {tk' : Nat} {m' : Str → Option Value} {z : Int} {t : Tok} (e : s' = { s with heap := h', toks := tk' }) (F : Fr h₀ L h' m') (m1 : m' (Str.ofString "cell") = some (.int z t)) (m2 : m' (Str.ofString "k") = some (.int 0 tk)) (N : News h₀ L h' []) : PoolSt h₀ L tk s .next s' := ⟨rfl, h', tk', m', z, t, e, F, m1, m2, N⟩
theorem one_int (a b : Int) (t u : Tok) : ∃ z v, (if b > a then Value.int b u else Value.int a t) = .int z v := by
  split
  · exact ⟨_, _, rfl⟩
  · exact ⟨_, _, rfl⟩
theorem pool_S (sc : Addr) (its : List Value) (ns : List Int) (tk : Tok) (hI : IntsAre its ns) (hl : ns.length ≤ 63) :
    Reads1 prog w loose mean mg mb 359 [.ref sc, .int 0 tk] 1 3 (fun h => h.IsList sc its.toArray) (fun h v h' => ∃ o, NewObj h v h' o ∧ PoolObj o) := by
  intro A s Q E hA T X hT ret
  refine' enterK [(Str.ofString "script", .ref sc), (Str.ofString "k", .int 0 tk)] X T ?k6 ?k7 ?k8 ?k9 ?kB ?_ ?c2 ?c3 ?c4 ?c5
  (case k6 => k_dflt k_is); (case k7 => k_dflt k_is); (case k8 => with_reducible assumption); (case k9 => exact rfl); (case kB => exact rfl); (case c5 => decide); (case c2 => exact rfl); (case c3 => exact rfl); (case c4 => exact rfl)
  intro L h₁ F N hA'
  (try dsimp only); (try k_fold)
  (repeat' (first | (walk_at "mifs"; walk_at "mrng"; walk_at "mman"; walk_at "mw")))
  refine wpAny_mono (Q := PoolSt s.heap L tk s) ?_ ?_ (fun _ _ e => e)
  · (try dsimp only); (try k_fold)
    (walk_at "mgo")
    all_goals (
      with_reducible rename Fr _ _ _ _ => F2
      with_reducible rename News _ _ _ _ => N2
      exact .mk rfl F2 rfl rfl N2)
  · rintro f s' ⟨rfl, h2, tk2, m2, z, t, rfl, F2, g1, g2, N2⟩
    have F3 := fr_look [(Str.ofString "cell", .int z t), (Str.ofString "k", .int 0 tk)] F2 (List.forall_mem_cons.mpr ⟨by first | rfl | assumption, List.forall_mem_cons.mpr ⟨by first | rfl | assumption, List.forall_mem_nil _⟩⟩)
    clear F2 hI hT
    (try dsimp only); (try k_fold)
    (walk_at "mgo")
    refine max_two_ints hA'.hd fun h5 tk5 e5 => ?_
    with_reducible rename Fr _ _ _ _ => F4
    with_reducible rename News _ _ _ _ => N4
    replace F4 := fr_ext F4 e5
    replace N4 := news_ext N4 e5
    obtain ⟨b, tb, hb⟩ := one_int z (-1 - z) t _
    rw [hb]
    clear hb e5
    (try dsimp only); (try k_fold)
    (walk_at "mgo")
    with_reducible rename Fr _ _ _ _ => F2
    with_reducible rename News _ _ _ _ => N2
    repeat walk_at "gq"
    exact ret _ _ _ F2.keep ⟨_, newObj_of N2 (.head _), _, _, _, _, _, Int.fmod_nonneg_of_pos _ (by omega), Int.fmod_lt_of_pos _ (by omega), rfl⟩
end
theorem topOff_law0 : True := by
  w_top off
  trivial
section
variable {prog : Program} {w : World} {loose : List Str} {mean : ExcName → Option Value} {mg mb : Str → Option Value}
/-! ## the law: two documents -/
structure TwoDocs (T : List RowD) (r0 r1 : Nat) (k0 k1 : Fo) : Prop where
  wf : Wf T
  len : T.length ≤ 15
  lt : r0 < r1
  lt1 : r1 < T.length
  p0 : (rowOf T r0).parent = none
  p1 : (rowOf T r1).parent = none
  f0 : IsF T k0 (rowOf T r0).kids
  f1 : IsF T k1 (rowOf T r1).kids
  d0 : k0.depth ≤ T.length
  d1 : k1.depth ≤ T.length
theorem two_docs {T1 T2 : List RowD} (h1 : DocI 0 T1 [] 10) (h2 : DocI T1.length T2 [] (T1.length + 5)) (hK : Kept T1 T2) : ∃ k0 k1, TwoDocs T2 0 T1.length k0 k1 := by
  have l1 := h1.lt; have l2 := h2.lt; have l3 := h1.le; have l4 := h2.le
  obtain ⟨k0, a0, b0⟩ := forest_of h2.wf (x := 0) (by omega)
  obtain ⟨k1, a1, b1⟩ := forest_of h2.wf (x := T1.length) l2
  exact ⟨k0, k1, h2.wf, by omega, l1, l2, (h2.wf.root 0 (by omega)).mpr ((hK 0 l1).trans h1.rk), (h2.wf.root _ l2).mpr h2.rk, a0, a1, b0, b1⟩
section
variable {A : Around} {E : Value → Shared → Prop} {s : Shared} {h₀ : Heap} {L : Addr} {m : Str → Option Value} {env : Env}
theorem rest_range {elt : PySem.Expr} {x : Str} {scope : Scope} {cl : List (Str × Addr)} {S : List (Addr × Obj) → Prop} {Fin : List Value → List (Addr × Obj) → Prop} {a : Int} {n : Nat}
    (J : Nat → List Value → List (Addr × Obj) → Prop)
    (turn : ∀ i ys news t I oI C oC D m₂ h tk (E' : Value → Shared → Prop), i < n → J i ys news → LCg.NsObj oC m₂ → m₂ x = some (.int (a + (i : Int)) t) → Fr h₀ L h m → News h₀ L h ((I, oI) :: (C, oC) :: (D, LCg.lst ys) :: news) → LCg.Off3 I C D news → ((@Ne Nat I C) ∧ (@Ne Nat I D) ∧ (@Ne Nat C D)) →
      wpAny (model prog w) A (eval elt (compEnvC scope cl C env)) (LCg.CompEnd h₀ L m { s with heap := h, toks := tk } I oI C oC D (LCg.lst ys) S (fun y' news' => J (i + 1) (ys ++ [y']) news')) E' { s with heap := h, toks := tk })
    (fin : ∀ ys news, J n ys news → Fin ys news) :
    ∀ (k i : Nat) (ys : List Value) (news : List (Addr × Obj)), i + k = n → J i ys news →
      LCg.CompRest prog w A h₀ L m env elt x scope cl s S (fun i v => ∃ t, v = .int (a + (i : Int)) t) Fin k i ys news := by
  intro k
  induction k with
  | zero =>
    intro i ys news hi hJ
    have : i = n := by omega
    subst this
    exact LCg.CompRest.zero (fin ys news hJ)
  | succ k ih =>
    intro i ys news hi hJ
    refine LCg.CompRest.succ fun v I oI C oC D m₂ h tk E' hv hC hm F N off ne => ?_
    obtain ⟨t, rfl⟩ := hv
    refine wpAny_mono (turn i ys news t I oI C oC D m₂ h tk E' (by omega) hJ hC hm F N off ne) (fun y' s' he => ?_) fun _ _ e => e
    obtain ⟨h', tk', news', e, F', N', o', hS, hr⟩ := he
    exact ⟨h', tk', news', e, F', N', o', hS, ih (i + 1) (ys ++ [y']) news' (by omega) hr⟩
theorem led_off3 {g : Heap} {sa I C D : Addr} {ad : TAd} {news : List (Addr × Obj)} (off : LCg.Off3 I C D (news ++ ((sa, (g.get? sa).getD (tupObj [])) :: objsAt g ad.all))) : I ∉ dfoot sa ad ∧ C ∉ dfoot sa ad ∧ D ∉ dfoot sa ad := by
  have h := off.mem
  refine ⟨fun q => ?_, fun q => ?_, fun q => ?_⟩
  · exact off_of_ne (fun p hp => (h p (List.mem_append.mpr (.inr hp))).1) q
  · exact off_of_ne (fun p hp => (h p (List.mem_append.mpr (.inr hp))).2.1) q
  · exact off_of_ne (fun p hp => (h p (List.mem_append.mpr (.inr hp))).2.2) q
end
section
variable {A : Around} {E : Value → Shared → Prop} {s : Shared} {h₀ : Heap} {L a : Addr} {m : Str → Option Value} {news keep : List (Addr × Obj)} {cn : Str} {cs : Scope} {ccd : Value}
theorem stCM {x : Str} {c : Addr} {o : Obj} {v₀ : Option Value} {v : Value} {Q : Unit → Shared → Prop} (F : Fr h₀ L s.heap m) (N : News h₀ L s.heap news)
    (hc : (cellsFrom (L + 1) cs.names []).lookup x = some c) (hm : (c, o) ∈ news) (hd : o.data = .cell v₀) (hk : ∀ p ∈ keep, p ∈ news ∧ (p.1 ≠ c ∨ ∀ v, p.2.data ≠ .cell v))
    (h : ∀ h' o', Fr h₀ L h' m → News h₀ L h' ((c, o') :: keep) → o'.data = .cell (some v) → Q () { s with heap := h' })
    (hkd : cs.kind = .function := by rfl) (hl : (envOfC cn cs L a ccd).kindOf x = some .cell := by rfl) : wpAny (model prog w) A (storeName (envOfC cn cs L a ccd) x v) Q E s :=
  stCN (own := []) (rest := keep) F (fun p hp => (List.mem_cons.mp hp).elim (fun e => e ▸ N _ hm) (fun h => N _ (hk p h).1)) hc hd (List.forall_mem_nil _) (fun p hp e => by
    rcases (hk p hp).2 with h1 | h1
    · exact h1 e
    · have h4 := (N p (hk p hp).1).1
      have h5 := (N (c, o) hm).1
      rw [e, h5] at h4
      cases h4
      exact h1 _ hd) h hkd hl
theorem led_cell {h : Heap} {sa : Addr} {ad : TAd} {c : Addr} (hn : c ∉ dfoot sa ad) {news : List (Addr × Obj)} (hs : ∀ p ∈ (sa, (h.get? sa).getD (tupObj [])) :: objsAt h ad.all, p ∈ news) : ∀ p ∈ (sa, (h.get? sa).getD (tupObj [])) :: objsAt h ad.all, p ∈ news ∧ (p.1 ≠ c ∨ ∀ v, p.2.data ≠ .cell v) := fun p hp => ⟨hs p hp, .inl (led_ne hn p hp)⟩
end
theorem off3_led {g g' : Heap} {sa I C D : Addr} {ad : TAd} {base : List (Addr × Obj)} (off : LCg.Off3 I C D (base ++ ((sa, (g.get? sa).getD (tupObj [])) :: objsAt g ad.all))) : LCg.Off3 I C D (base ++ ((sa, (g'.get? sa).getD (tupObj [])) :: objsAt g' ad.all)) := by
  obtain ⟨h1, h2, h3⟩ := led_off3 off
  refine LCg.Off3.of fun p hp => ?_
  rcases List.mem_append.mp hp with h | h
  · exact off.mem p (List.mem_append.mpr (.inl h))
  · exact ⟨led_ne h1 p h, led_ne h2 p h, led_ne h3 p h⟩
theorem off1_mem {D : Addr} : ∀ {l : List (Addr × Obj)}, LCg.Off1 D l → ∀ p ∈ l, p.1 ≠ D
  | [], _, p, hp => by cases hp
  | q :: r, h, p, hp => by
    rcases List.mem_cons.mp hp with rfl | hp
    · exact h.1
    · exact off1_mem h.2 p hp
theorem list_ne_tab {h₀ h : Heap} {L a P : Addr} {news : List (Addr × Obj)} {v : Array Value} {c : Nat} {ps : Array Value} (N : News h₀ L h news) (h1 : (a, listOf v c) ∈ news) (h2 : (P, tabObj ps) ∈ news) : a ≠ P := fun e => by
  have a1 := (N _ h1).1
  have a2 := (N _ h2).1
  subst e
  have a1' : h.get? a = some (listOf v c) := a1
  have a2' : h.get? a = some (tabObj ps) := a2
  rw [a1'] at a2'
  have := congrArg Obj.data (Option.some.inj a2')
  cases this
end
theorem topOff_law1 : True := by
  w_top off
  trivial
section
variable {prog : Program} {w : World} {loose : List Str} {mean : ExcName → Option Value} {mg mb : Str → Option Value}
def whl (T : List RowD) (r0 r1 : Nat) (k0 k1 : Fo) : List Nat := walk1Of T r0 k0 ++ walk1Of T r1 k1
section
variable {T : List RowD} {r0 r1 : Nat} {k0 k1 : Fo}
theorem TwoDocs.lt0 (W : TwoDocs T r0 r1 k0 k1) : r0 < T.length := Nat.lt_trans W.lt W.lt1
theorem TwoDocs.pw (W : TwoDocs T r0 r1 k0 k1) : (whl T r0 r1 k0 k1).Pairwise (Bef T) := whole_pw W.wf (by have := W.len; omega) W.lt W.lt1 W.p0 W.p1 W.f0 W.f1
theorem TwoDocs.nd (W : TwoDocs T r0 r1 k0 k1) : (whl T r0 r1 k0 k1).Nodup := pw_nodup W.pw
theorem TwoDocs.mem (W : TwoDocs T r0 r1 k0 k1) : ∀ y ∈ whl T r0 r1 k0 k1, y < T.length := fun y hy => by
  rcases List.mem_append.mp hy with h | h
  · exact walk1_lt W.wf W.lt0 W.f0 y h
  · exact walk1_lt W.wf W.lt1 W.f1 y h
theorem TwoDocs.len0 (W : TwoDocs T r0 r1 k0 k1) : (walk1Of T r0 k0).length ≤ T.length := walk1_len W.wf (by have := W.len; omega) W.lt0 W.f0
theorem TwoDocs.len1 (W : TwoDocs T r0 r1 k0 k1) : (walk1Of T r1 k1).length ≤ T.length := walk1_len W.wf (by have := W.len; omega) W.lt1 W.f1
theorem TwoDocs.lenW (W : TwoDocs T r0 r1 k0 k1) : (whl T r0 r1 k0 k1).length ≤ 30 ∧ 1 ≤ (whl T r0 r1 k0 k1).length := by
  have h0 := W.len0; have h1 := W.len1; have h2 := W.len
  unfold whl
  rw [List.length_append]
  exact ⟨by omega, by simp [walk1Of]; omega⟩
theorem TwoDocs.line (W : TwoDocs T r0 r1 k0 k1) {y : Nat} (hy : y < T.length) : ∃ l, Ch (rowOf T) y l ∧ Up T y l ∧ l.length ≤ 200 ∧ Linked T l.reverse ∧ plc T y = placeL T l.reverse := by
  obtain ⟨l, hl⟩ := W.wf.up y hy
  have h1 := hl.len W.wf hy
  have h2 := W.len
  exact ⟨l, hl, hl.isUp W.wf hy, by omega, hl.isLinked W.wf hy, plc_of hl (by omega)⟩
end
/-- the code table of in_order between the law's statements: what its entry names stands in the base or is the one object xa -/
def LamE (h₀ : Heap) (ps : Array Value) (xa : Addr) (xo : Obj) : Prop := ps = #[] ∨ ∃ c' oc vs t, ps = #[rawInt 27, rawInt 29, .ref c'] ∧ (h₀.get? c' = some oc ∨ (c' = xa ∧ oc = xo)) ∧ oc.data = .fields vs ∧ vs[1]? = some (.str lamQual t)
section
variable {A : Around} {E : Value → Shared → Prop} {s : Shared} {h₀ : Heap} {L : Addr} {m : Str → Option Value} {T : List RowD} {ad : TAd} {sa : Addr}
theorem LamE.tab {h : Heap} {ps : Array Value} {xa : Addr} {xo : Obj} (x : LamE h₀ ps xa xo) (k : ∀ b o, h₀.get? b = some o → h.get? b = some o) (hx : h.get? xa = some xo) : LamTab h ps := by
  rcases x with h1 | ⟨c', oc, vs, t, h1, h2, h3, h4⟩
  · exact .inl h1
  · refine .inr ⟨c', oc, vs, t, h1, ?_, h3, h4⟩
    rcases h2 with h2 | ⟨rfl, rfl⟩
    · exact k _ _ h2
    · exact hx
theorem dfoot_data {h : Heap} (D : DocH h sa T ad) {a : Addr} (ha : a ∈ dfoot sa ad) {o : Obj} (ho : h.get? a = some o) : ∀ vs, o.data ≠ .fields vs := by
  rcases List.mem_cons.mp ha with rfl | ha
  · obtain ⟨x, y, t1, t2, n, h1, h2, e⟩ := D.src
    rw [e] at ho; cases ho
    intro vs q; cases q
  unfold TAd.all at ha
  have hT := D.tree
  rcases List.mem_cons.mp ha with rfl | ha
  · rw [hT.inst] at ho; cases ho; intro vs q; cases q
  rcases List.mem_cons.mp ha with rfl | ha
  · obtain ⟨hs, t, n, h1⟩ := hT.dict
    rw [h1] at ho; cases ho; intro vs q; cases q
  rcases List.mem_cons.mp ha with rfl | ha
  · obtain ⟨n, h1⟩ := hT.rows
    rw [h1] at ho; cases ho; intro vs q; cases q
  obtain ⟨p, hp, ha⟩ := List.mem_flatMap.mp ha
  obtain ⟨i, hi, hpi⟩ := List.getElem_of_mem hp
  have hlt : i < T.length := by rw [← hT.len]; exact hi
  have R := hT.row i T[i] p (by simp [hlt]) (by rw [List.getElem?_eq_getElem hi, hpi])
  unfold Plc.all at ha
  simp only [List.mem_cons, List.not_mem_nil, or_false] at ha
  rcases ha with rfl | rfl | rfl | rfl | rfl
  · rw [R.inst] at ho; cases ho; intro vs q; cases q
  · obtain ⟨es, n, h1, _⟩ := R.dict; rw [h1] at ho; cases ho; intro vs q; cases q
  · obtain ⟨vs, n, h1, _⟩ := R.kids; rw [h1] at ho; cases ho; intro vs q; cases q
  · obtain ⟨vs, n, h1, _⟩ := R.atts; rw [h1] at ho; cases ho; intro vs q; cases q
  · obtain ⟨vs, n, h1, _⟩ := R.nss; rw [h1] at ho; cases ho; intro vs q; cases q
def SameL (a b : List Nat) : Prop := a = b
theorem in_order_L {wh : List Nat} {r0 r1 : Nat} {k0 k1 : Fo} {na : Addr} {nodes : List Nat} {vn : List Value} {cn : Nat} {ps : Array Value} {xa : Addr} {xo : Obj} {rest : List (Addr × Obj)} {Q : Value → Shared → Prop}
    (W : TwoDocs T r0 r1 k0 k1) (hwh : SameL wh (whl T r0 r1 k0 k1)) (hin : ∀ y ∈ nodes, y ∈ wh) (hz : nodes.length < 64)
    (F : Fr h₀ L s.heap m) (N : News h₀ L s.heap ((44, tabObj ps) :: (xa, xo) :: rest)) (hx44 : xa ≠ 44) (hxd : xa ∉ dfoot sa ad) (hr : ∀ p ∈ rest, p.1 ≠ 44) (X : (Mine.hd.heap_39 w.params).In h₀) (Tp : Top topProg loose mean mg mb h₀) (hA : AOk A 7 21) (hC : CodeHd h₀ 46 44)
    (hD : DocH s.heap sa T ad) (hoff : OffB h₀ L (dfoot sa ad)) (h44 : 44 ∉ dfoot sa ad) (hN : (na, listOf vn.toArray cn) ∈ rest) (hIn : IntsAre vn (natInts nodes)) (hLam : LamE h₀ ps xa xo)
    (k : ∀ a vs c ps' xa' xo' h' tk', Fr h₀ L h' m → News h₀ L h' ((a, listOf vs.toArray c) :: (44, tabObj ps') :: (xa', xo') :: rest) → DocH h' sa T ad → xa' ≠ 44 → xa' ∉ dfoot sa ad → LamE h₀ ps' xa' xo' →
      IntsAre vs (natInts (wh.filter fun x => decide (x ∈ nodes))) → a ∉ dfoot sa ad → (∀ p ∈ rest, p.1 ≠ a) → Q (.ref a) { s with heap := h', toks := tk' }) :
    wpAny (model prog w) A (call (.ref 47) [.ref ad.t, .ref na]) Q E s := by
  have ewh : wh = whl T r0 r1 k0 k1 := hwh
  subst ewh
  have h44m := N _ (.head _)
  have hoff44 : OffB h₀ L [44] := fun a ha => by rw [List.mem_singleton.mp ha]; exact ⟨h44m.2.2, h44m.2.1⟩
  have N1 : News h₀ L s.heap ((xa, xo) :: rest) := fun p hp => N p (.tail _ hp)
  have hn44 : ∀ p ∈ (xa, xo) :: rest, p.1 ∉ [44] := fun p hp q => by
    have q := List.mem_singleton.mp q
    rcases List.mem_cons.mp hp with rfl | hp
    · exact hx44 q
    · exact hr p hp q
  refine (in_order_S T ad na nodes (plc T) (whl T r0 r1 k0 k1).idxOf ps (fun y hy => ?_) (plc_pos T) hz (fun x hx y hy => bef_idx W.pw (hin x hx) (hin y hy)) (fun x hx y hy e => idx_inj (hin x hx) e)).use F N1 X Tp hoff44 hn44 hA
    ⟨hD.tree, ⟨vn, cn, (N1 _ (.tail _ hN)).1, hIn⟩, hC.keeps (base_hid F hoff44), h44m.1, hLam.tab F.keep (N1 _ (.head _)).1, fun q => h44 (.tail _ q), hr _ hN⟩ fun v h' tk' F' N' hm hp => ?_
  · obtain ⟨l, h1, h2⟩ := W.line (W.mem y (hin y hy))
    exact ⟨l, h2⟩
  obtain ⟨o, ps', out, ⟨a, rfl, ha0, ha1⟩, ⟨vs, c, rfl, hI⟩, hmem, hpw, h44', hLam'⟩ := hp
  have hD' : DocH h' sa T ad := ⟨hD.src.mod hm (fun q => h44 (by rw [← List.mem_singleton.mp q]; exact .head _)), hD.tree.mod hm (fun b hb q => h44 (by rw [← List.mem_singleton.mp q]; exact .tail _ hb)), hD.off⟩
  have hout := order_eq W.nd hin hmem hpw
  rw [hout] at hI
  have fresh : ∀ (b : Addr) (ob : Obj), s.heap.get? b = some ob → b ≠ a := fun b ob e q => by rw [q, ha0] at e; cases e
  have haN : News h₀ L h' [(a, listOf vs.toArray c)] := fun p hp => by
    rw [List.mem_singleton.mp hp]
    refine ⟨ha1, fun q => ?_, ?_⟩
    · obtain ⟨oL, _, _, hL, _⟩ := F.ns
      exact fresh _ _ hL (by rw [show L = a from q.symm])
    · cases q : h₀.get? a with
      | none => rfl
      | some o' => exact absurd rfl (fresh _ _ (F.keep _ _ q))
  have h44N : News h₀ L h' [(44, tabObj ps')] := fun p hp => by
    rw [List.mem_singleton.mp hp]; exact ⟨h44', h44m.2.1, h44m.2.2⟩
  have had : a ∉ dfoot sa ad := fun q => by
    rcases List.mem_cons.mp q with rfl | q
    · obtain ⟨o, ho⟩ := hD.src.live; exact fresh _ _ ho rfl
    · obtain ⟨o, ho⟩ := hD.tree.live a q; exact fresh _ _ ho rfl
  have har : ∀ p ∈ rest, p.1 ≠ a := fun p hp => fresh _ _ (N1 p (.tail _ hp)).1
  have Nr : News h₀ L h' rest := fun p hp => N' p (.tail _ hp)
  have fin : ∀ xa' xo', News h₀ L h' [(xa', xo')] → xa' ≠ 44 → xa' ∉ dfoot sa ad → LamE h₀ ps' xa' xo' → Q (.ref a) { s with heap := h', toks := tk' } := fun xa' xo' Nx g1 g2 g3 =>
    k a vs c ps' xa' xo' h' tk' F' (fun p hp => by
      rcases List.mem_cons.mp hp with rfl | hp
      · exact haN _ (.head _)
      rcases List.mem_cons.mp hp with rfl | hp
      · exact h44N _ (.head _)
      rcases List.mem_cons.mp hp with rfl | hp
      · exact Nx _ (.head _)
      · exact Nr p hp) hD' g1 g2 g3 hI had har
  have old : ∀ q : LamE h₀ ps' xa xo, Q (.ref a) { s with heap := h', toks := tk' } := fun q => fin xa xo (fun p hp => by rw [List.mem_singleton.mp hp]; exact N' _ (.head _)) hx44 hxd q
  rcases hLam' with h1 | ⟨c', oc, vc, t, h1, h2, h3, h4⟩
  · exact old (.inl h1)
  · cases hb : h₀.get? c' with
    | some ob =>
      have := F'.keep _ _ hb
      rw [h2] at this; cases this
      exact old (.inr ⟨c', oc, vc, t, h1, .inl hb, h3, h4⟩)
    | none =>
      refine fin c' oc (fun p hp => ?_) (fun q => ?_) (fun q => ?_) (.inr ⟨c', oc, vc, t, h1, .inr ⟨rfl, rfl⟩, h3, h4⟩)
      · rw [List.mem_singleton.mp hp]
        refine ⟨h2, fun q => ?_, hb⟩
        obtain ⟨oL, vL, nL, hL, hdL⟩ := F'.ns
        rw [show c' = L from q, hL] at h2
        cases h2
        first | (rw [h3] at hdL; cases hdL.1) | (rw [h3] at hdL; cases hdL) | (have := hdL.1; rw [h3] at this; cases this)
      · subst q
        rw [h44'] at h2; cases h2
        have h3' : Data.fields ps' = Data.fields vc := h3
        injection h3' with h5
        rw [← h5, h1] at h4
        cases h4
      · exact dfoot_data hD' q h2 vc h3
end
inductive LawEnd (h₀ : Heap) (L : Addr) (lst : List (Addr × Obj)) (sa wa ra : Addr) (T : List RowD) (ad : TAd) (s : Shared) (f : Flow) (s' : Shared) : Prop
  | intro (hf : f = Flow.next) (h' : Heap) (tk' : Nat) (m' : Str → Option Value) (ps : Array Value) (xa : Addr) (xo : Obj) (e : s' = { s with heap := h', toks := tk' }) (F : Fr h₀ L h' m') (m1 : m' (Str.ofString "walks") = some (.ref wa)) (m2 : m' (Str.ofString "roots") = some (.ref ra))
    (N : News h₀ L h' ((44, tabObj ps) :: (xa, xo) :: lst)) (h1 : xa ≠ 44) (h2 : xa ∉ dfoot sa ad) (hL : LamE h₀ ps xa xo) (hD : DocH h' sa T ad) : LawEnd h₀ L lst sa wa ra T ad s f s'
theorem LawEnd.mk {h₀ : Heap} {L : Addr} {lst : List (Addr × Obj)} {sa wa ra : Addr} {T : List RowD} {ad : TAd} {s s' : Shared} {h' : Heap} {tk' : Nat} {m' : Str → Option Value} {ps : Array Value} {xa : Addr} {xo : Obj}
    (e : s' = { s with heap := h', toks := tk' }) (F : Fr h₀ L h' m') (m1 : m' (Str.ofString "walks") = some (.ref wa)) (m2 : m' (Str.ofString "roots") = some (.ref ra)) (N : News h₀ L h' ((44, tabObj ps) :: (xa, xo) :: lst)) (h1 : xa ≠ 44) (h2 : xa ∉ dfoot sa ad) (hL : LamE h₀ ps xa xo) (hD : DocH h' sa T ad) : LawEnd h₀ L lst sa wa ra T ad s .next s' :=
  ⟨rfl, h', tk', m', ps, xa, xo, e, F, m1, m2, N, h1, h2, hL, hD⟩
theorem ne_same {A : Around} {E : Value → Shared → Prop} {s : Shared} {h₀ : Heap} {L a b : Addr} {news : List (Addr × Obj)} {xs ys : List Value} {c c' : Nat} {ns : List Int} {d u : Nat} {Q : Value → Shared → Prop} (N : News h₀ L s.heap news) (ha : (a, listOf xs.toArray c) ∈ news) (hb : (b, listOf ys.toArray c') ∈ news)
    (hi : IntsAre xs ns) (hj : IntsAre ys ns) (hA : AOk A d u) (h : Q (.bool false) s) : wpAny (model prog w) A (compareOp .NotEq (.ref a) (.ref b)) Q E s :=
  ke_ne_ints (PySem.IsL.isList (n := c) (N.get ha)) (PySem.IsL.isList (n := c') (N.get hb)) hi hj hA.cl64 (by simpa using h)
theorem any_nats (xs : List Nat) (y : Nat) : ((natInts xs).any fun x => x == (y : Int)) = decide (y ∈ xs) := by
  induction xs with
  | nil => rfl
  | cons a r ih =>
    show ((((a : Nat) : Int) == (y : Int)) || (natInts r).any _) = _
    rw [ih]
    by_cases e : a = y
    · subst e; simp
    · have h1 : (((a : Nat) : Int) == (y : Int)) = false := by simp; omega
      rw [h1, Bool.false_or]
      simp [Ne.symm e]
theorem in_nats {A : Around} {E : Value → Shared → Prop} {s : Shared} {h₀ : Heap} {L l : Addr} {news : List (Addr × Obj)} {vs : List Value} {c y : Nat} {t : Tok} {xs : List Nat} {Q : Value → Shared → Prop} (N : News h₀ L s.heap news) (hm : (l, listOf vs.toArray c) ∈ news) (hi : IntsAre vs (natInts xs)) (h : Q (.bool (decide (y ∈ xs))) s) :
    wpAny (model prog w) A (compareOp .In (.int (y : Nat) t) (.ref l)) Q E s :=
  in_list_ints (PySem.IsL.isList (n := c) (N.get hm)) hi (by rw [any_nats]; exact h)
theorem filter_snoc (p : Nat → Bool) (l : List Nat) (y : Nat) : (l ++ [y]).filter p = l.filter p ++ if p y = true then [y] else [] := by
  rw [List.filter_append]; simp [List.filter_cons]
inductive LawJ (base : List (Addr × Obj)) (sa wa ra : Addr) (T : List RowD) (ad : TAd) (i : Nat) (m₁ : Str → Option Value) (news₁ : List (Addr × Obj)) : Prop
  | intro (m1 : m₁ (Str.ofString "walks") = some (.ref wa)) (m2 : m₁ (Str.ofString "roots") = some (.ref ra)) (g : Heap) (hD : DocH g sa T ad) (e : news₁ = base ++ ((sa, (g.get? sa).getD (tupObj [])) :: objsAt g ad.all)) : LawJ base sa wa ra T ad i m₁ news₁
inductive TurnSt (h₀ : Heap) (L : Addr) (base : List (Addr × Obj)) (sa wa ra : Addr) (T : List RowD) (ad : TAd) (one : Nat) (t1 : Tok) (s : Shared) (f : Flow) (s' : Shared) : Prop
  | intro (hf : f = Flow.next) (h' : Heap) (tk' : Nat) (m' : Str → Option Value) (e : s' = { s with heap := h', toks := tk' }) (F : Fr h₀ L h' m') (m1 : m' (Str.ofString "walks") = some (.ref wa)) (m2 : m' (Str.ofString "roots") = some (.ref ra)) (m3 : m' (Str.ofString "one") = some (.int (one : Nat) t1)) (N : News h₀ L h' base) (hD : DocH h' sa T ad) : TurnSt h₀ L base sa wa ra T ad one t1 s f s'
theorem TurnSt.mk {h₀ : Heap} {L : Addr} {base : List (Addr × Obj)} {sa wa ra : Addr} {T : List RowD} {ad : TAd} {one : Nat} {t1 : Tok} {s s' : Shared} {h' : Heap} {tk' : Nat} {m' : Str → Option Value}
    (e : s' = { s with heap := h', toks := tk' }) (F : Fr h₀ L h' m') (m1 : m' (Str.ofString "walks") = some (.ref wa)) (m2 : m' (Str.ofString "roots") = some (.ref ra)) (m3 : m' (Str.ofString "one") = some (.int (one : Nat) t1)) (N : News h₀ L h' base) (hD : DocH h' sa T ad) : TurnSt h₀ L base sa wa ra T ad one t1 s .next s' :=
  ⟨rfl, h', tk', m', e, F, m1, m2, m3, N, hD⟩
theorem law_turn {h₀ h₃ h' : Heap} {L I sa wa ra : Addr} {oI : Obj} {base : List (Addr × Obj)} {T : List RowD} {ad : TAd} {s : Shared} {tk₃ tk' i : Nat} {m' : Str → Option Value} {Q : Flow → Shared → Prop}
    (F : Fr h₀ L h' m') (m1 : m' (Str.ofString "walks") = some (.ref wa)) (m2 : m' (Str.ofString "roots") = some (.ref ra)) (N : News h₀ L h' ((I, oI) :: base)) (hD : DocH h' sa T ad) (hoff : OffB h₀ L (dfoot sa ad)) (hI : I ∉ dfoot sa ad) (hb : ∀ p ∈ base, p.1 ≠ I) :
    TurnEndI h₀ L [(I, oI)] I (LawJ base sa wa ra T ad (i + 1)) { s with heap := h₃, toks := tk₃ } Q .next { s with heap := h', toks := tk' } := by
  refine ⟨h', tk', m', ((I, oI) :: base) ++ ((sa, (h'.get? sa).getD (tupObj [])) :: objsAt h' ad.all), base ++ ((sa, (h'.get? sa).getD (tupObj [])) :: objsAt h' ad.all), rfl, F, news_app N (docH_led hD hoff), fun p hp => ?_, fun p hp => .tail _ hp, fun p hp => ?_, m1, m2, h', hD, rfl⟩
  · rw [List.mem_singleton.mp hp]; exact .head _
  · rcases List.mem_append.mp hp with h | h
    · exact hb p h
    · exact led_ne hI p h
theorem tail_slice {A : Around} {E : Value → Shared → Prop} {s : Shared} {h₀ : Heap} {L l : Addr} {m : Str → Option Value} {news : List (Addr × Obj)} {value slice : PySem.Expr} {v : Value} {vr ops : List Value} {t : Tok} {Q : Value → Shared → Prop}
    (F : Fr h₀ L s.heap m) (N : News h₀ L s.heap news) (hl : s.heap.IsList l (v :: vr).toArray)
    (h : ∀ D h', Fr h₀ L h' m → News h₀ L h' ((D, listOf vr.toArray 0) :: news) → (∀ p ∈ news, p.1 < D) → Q (.ref D) { s with heap := h' })
    (hs : subscripted slice false (.ref l) (.ref s.heap.objs.size) = operate ops (getItem (.ref l) (.ref s.heap.objs.size))) (ht : ∀ r, letTemporaryGo value (.ref l) r = pure ()) (hz : vr.length ≤ 1000) :
    wpAny (model prog w) A (subscriptTail value slice (.ref l) (.ref s.heap.objs.size)) Q E { s with heap := s.heap.push { cls := .type "slice", data := .fields #[.int 1 t, .none, .none] } } := by
  refine slice_list3 F N hl (.int 1 t) .none .none (by decide) (fun h' F' N' => h _ h' F' ?_ fun p hp => Nat.lt_succ_of_lt (Heap.lt_size (N p hp).1)) hs ht (by rw [sizeLine_eq]; simp; omega)
  have e : slicePick (v :: vr).toArray (some 1) none none = vr.toArray := by
    rw [kms_pick_eq]
    unfold kms_pick kms_lo kms_hi
    simp
  rw [e] at N'
  exact N'
theorem beq_dec (a b : Str) : (a == b) = decide (b = a) := by
  by_cases h : a = b
  · subst h; simp
  · rw [beq_false_of_ne h, decide_eq_false (Ne.symm h)]
theorem notAN_any (T : List RowD) (y : Nat) : (!([Str.ofString "attribute", Str.ofString "namespace"].any fun x => x == (rowOf T y).kind)) = notAN T y := by
  unfold notAN kAtt kNs
  rw [List.any_cons, List.any_cons, List.any_nil, Bool.or_false]
  rw [beq_dec, beq_dec]
theorem scope_N (Tr : List RowD) (ad : TAd) (i : Nat) (l : List Nat) (tk : Tok) (hu : Up Tr i l) (hl : l.length ≤ 200) (hns : NssOk Tr) :
    Reads1 prog w loose mean mg mb 73 [.ref ad.t, .int (i : Nat) tk] 4 12 (fun h => TreeH h Tr ad) (fun h v h' => ∃ o, NewObj h v h' o ∧ (fun v o => ∃ kvs, o.IsDictOf (sk prog w) kvs ∧ SP kvs (scopeD Tr l.reverse) ∧ ∀ a, v = .ref a → (a == sysModules) = false) v o) :=
  fun A s Q E hA T X hp ret => scope_of_S Tr ad i l tk hu hl hns A s Q E hA T X hp fun v h' tk' e ⟨o, kvs, h1, h2⟩ => ret v h' tk' e ⟨o, h1, kvs, h2⟩
theorem lscope_N (Tr : List RowD) (ad : TAd) (i : Nat) (l : List Nat) (tk : Tok) (hu : Up Tr i l) (hl : l.length ≤ 200) (hns : NssOk Tr) :
    Reads1 prog w loose mean mg mb 397 [.ref ad.t, .int (i : Nat) tk] 4 12 (fun h => TreeH h Tr ad) (fun h v h' => ∃ o, NewObj h v h' o ∧ (fun v o => ∃ kvs, o.IsDictOf (sk prog w) kvs ∧ SP kvs (lawScopeD Tr l.reverse) ∧ ∀ a, v = .ref a → (a == sysModules) = false) v o) :=
  fun A s Q E hA T X hp ret => law_scope_S Tr ad i l tk hu hl hns A s Q E hA T X hp fun v h' tk' e ⟨o, kvs, h1, h2⟩ => ret v h' tk' e ⟨o, h1, kvs, h2⟩
theorem wf_nss {T : List RowD} (W : Wf T) : NssOk T := fun a Ra ha j hj => by
  have hl := row_lt ha
  have := (W.ns a hl j (by rw [rowOf_of ha]; exact hj)).1
  exact ⟨_, row_get this⟩
theorem wf_vals {T : List RowD} (W : Wf T) : ValsOk T := fun i R h => by
  have := W.vals i (row_lt h)
  rw [rowOf_of h] at this; exact this
theorem ne_scopes {A : Around} {E : Value → Shared → Prop} {s : Shared} {h₀ : Heap} {L a b : Addr} {news : List (Addr × Obj)} {oa ob : Obj} {ka kb : List (Str × Value)} {T : List RowD} {line : List Nat} {d u : Nat} {Q : Value → Shared → Prop} (N : News h₀ L s.heap news) (ha : (a, oa) ∈ news) (hb : (b, ob) ∈ news)
    (da : oa.IsDictOf (sk prog w) ka) (db : ob.IsDictOf (sk prog w) kb) (fa : SP ka (scopeD T line)) (fb : SP kb (lawScopeD T line)) (la : (a == sysModules) = false) (lb : (b == sysModules) = false) (hA : AOk A d u) (h : Q (.bool false) s) :
    wpAny (model prog w) A (compareOp .NotEq (.ref a) (.ref b)) Q E s :=
  kne_tabs (knd := PySem.strKind _ _) (enc := PyData.str) PyProof.V.same_str ⟨la, ka, Heap.dictOf_iff.mpr ⟨oa, (N _ ha).1, da⟩, fa.flat⟩ ⟨lb, kb, Heap.dictOf_iff.mpr ⟨ob, (N _ hb).1, db⟩, fb.flat⟩ (by unfold encS; rw [List.length_map, List.length_map]; exact scope_len T line) hA.cl (scope_rows T line) h
theorem useNewV {A : Around} {E : Value → Shared → Prop} {s : Shared} {h₀ : Heap} {L : Addr} {m : Str → Option Value} {news : List (Addr × Obj)} {f : Addr} {vs : List Value} {d u : Nat} {pre : Heap → Prop} {P : Value → Obj → Prop} {Q : Value → Shared → Prop} (S : Reads1 prog w loose mean mg mb f vs d u pre (fun h v h' => ∃ o, NewObj h v h' o ∧ P v o))
    (F : Fr h₀ L s.heap m) (N : News h₀ L s.heap news) (X : (Mine.hd.heap_39 w.params).In h₀) (T : Top topProg loose mean mg mb h₀) (hA : AOk A d u) (hp : pre s.heap)
    (k : ∀ a o h' tk', Fr h₀ L h' m → News h₀ L h' ((a, o) :: news) → (∀ p ∈ news, p.1 ≠ a) → Ext s.heap h' → P (.ref a) o → Q (.ref a) { s with heap := h', toks := tk' }) : wpAny (model prog w) A (call (.ref f) vs) Q E s :=
  Reads1.use S F N X T hA hp fun v h' tk' F' N' e ⟨o, ⟨a, hv, hn, ha⟩, hP⟩ => by
    subst hv
    obtain ⟨oL, _, _, hL, _⟩ := F.ns
    refine k a o h' tk' F' (fun p hp => ?_) (fun p hp q => ?_) e hP
    · rcases List.mem_cons.mp hp with rfl | hp
      · refine ⟨ha, fun q => ?_, ?_⟩
        · rw [show a = L from q, hL] at hn; cases hn
        cases q : h₀.get? a with
        | none => rfl
        | some o' => have := F.keep _ _ q; rw [hn] at this; cases this
      · exact N' p hp
    · have := (N p hp).1
      rw [q, hn] at this; cases this
end
theorem topOff_law : True := by
  w_top off
  trivial
section
variable {prog : Program} {w : World} {loose : List Str} {mean : ExcName → Option Value} {mg mb : Str → Option Value}
local macro_rules | `(tactic| walk_at "call builtin:list.index") => `(tactic| ((with_reducible show wpAny _ _ (call (Value.builtin _) [Value.ref _, Value.int _ _]) _ _ _); k_dflt (refine' index_ints (by exact (News.get (by walk_at "q") (by k_mem))) (by walk_at "q") (by walk_at "q") (by omega) ?_; k_whole; intro _)))
local macro_rules | `(tactic| k_mem) => `(tactic| ((fail_if_success (with_reducible show _ ∈ ([] : List (Addr × Obj)))); (repeat (with_reducible refine List.mem_cons_of_mem _ ?_)); (with_reducible first | assumption | (refine List.mem_append_left _ ?_; assumption))))
theorem item2_0 {value slice : PySem.Expr} {A : Around} {E : Value → Shared → Prop} {s : Shared} {l : Addr} {a b : Value} {n : Nat} {u : Tok} {Q : Value → Shared → Prop} (hl : s.heap.get? l = some (listOf #[a, b] n)) (h : Q a s)
    (hs : subscripted slice false (.ref l) (.int 0 u) = operate [.ref l, .int 0 u] (getItem (.ref l) (.int 0 u))) (hg : ∀ r, letTemporaryGo value (.ref l) r = pure ()) :
    wpAny (model prog w) A (subscriptTail value slice (.ref l) (.int 0 u)) Q E s := PyProof.Rows.item_list (PySem.IsL.isList hl) (by decide) (by decide) rfl h hs hg
theorem item2_1 {value slice : PySem.Expr} {A : Around} {E : Value → Shared → Prop} {s : Shared} {l : Addr} {a b : Value} {n : Nat} {u : Tok} {Q : Value → Shared → Prop} (hl : s.heap.get? l = some (listOf #[a, b] n)) (h : Q b s)
    (hs : subscripted slice false (.ref l) (.int 1 u) = operate [.ref l, .int 1 u] (getItem (.ref l) (.int 1 u))) (hg : ∀ r, letTemporaryGo value (.ref l) r = pure ()) :
    wpAny (model prog w) A (subscriptTail value slice (.ref l) (.int 1 u)) Q E s := PyProof.Rows.item_list (PySem.IsL.isList hl) (by decide) (by decide) rfl h hs hg
local macro_rules | `(tactic| walk_at "subscriptTail Name Constant ref int") => `(tactic| (first
  | ((with_reducible show wpAny _ _ (subscriptTail _ _ (Value.ref _) (Value.int 0 _)) _ _ _); k_dflt (refine' item2_0 (by exact News.get (by walk_at "q") (by k_mem)) ?_ (by with_unfolding_all rfl) (by intro _; with_unfolding_all rfl); k_whole))
  | ((with_reducible show wpAny _ _ (subscriptTail _ _ (Value.ref _) (Value.int 1 _)) _ _ _); k_dflt (refine' item2_1 (by exact News.get (by walk_at "q") (by k_mem)) ?_ (by with_unfolding_all rfl) (by intro _; with_unfolding_all rfl); k_whole))))
theorem with_A {M : Model} {A : Around} {x : Sem Flow} {Q : Flow → Shared → Prop} {E : Value → Shared → Prop} {s : Shared} {d u : Nat} (h : AOk A d u) (k : AOk A d u → wpAny M A x Q E s) : wpAny M A x Q E s := k h
theorem law_try : PySem.Challenge.rw_nu0062_01.Holds := Mine.hd (by
  k_go0
  all_goals try k_fold
  w_top off
  rename_i W s0 s1 mg mb G Y fa o pm cd dc ho hcd hg X1 V1 T1 B1 TE1 TW1 ns hs hy0 hL1 hr1 hl2 w8 w7 sc its w4 hL ra wl r0 hI hr hc1 hc2 hD h1 tk1 cs1 cs2 cs3 cs4 dd1 dd2 dd3 dd4 X0 X T K F N l0
  clear X0 K ho hcd hT8 X1 V1 T1 B1 TE1 TW1 hT9 hs hy0 hL1 hr1 hl2 hL ra wl r0 hr hc2 hD
  replace dd1 := (show cs1.data = .cell none from dd1)
  replace dd2 := (show cs2.data = .cell none from dd2)
  replace dd3 := (show cs3.data = .cell none from dd3)
  replace dd4 := (show cs4.data = .cell none from dd4)
  replace F := fr_look [(Str.ofString "script", .ref sc)] F (List.forall_mem_cons.mpr ⟨by first | rfl | assumption, List.forall_mem_nil _⟩)
  have hC : CodeHd (ghostOf s1.heap [(46, 44)]) 46 44 := codeHd
  clear codeHd
  (try dsimp only)
  have hA0 : ∀ e : Env, AOk (callerA.deeper e) 40 400 := fun e => ⟨rfl, by show (callerA.depth + 1) + 40 ≤ 900; decide, by show (callerA.units + 3) + 400 ≤ 9000; decide⟩
  generalize ghostOf s1.heap [(46, 44)] = h₀ at F N X T lifted hC ⊢
  generalize s1.heap.objs.size = L at F N l0 ⊢
  obtain ⟨m0, F1⟩ : ∃ m0, Fr h₀ L h1 (viewOf [(Str.ofString "script", .ref sc)] m0) := ⟨_, F⟩
  clear F
  refine with_A (hA0 _) ?_
  intro hA
  clear G Y hA0
  (repeat' (first | (walk_at "mrng"; walk_at "mman"; walk_at "mw")))
  refine Reads1.useNew (pool_S sc its ns _ hI (by omega)) F1 N X T (hA.le (by omega) (by omega)) (lifted.at fun o e => F1.keep _ o e) ?_
  intro sa so h2 tk2 F2 N2 ne2 e2 p2
  obtain ⟨x, y, tx, ty, nn, hy0, hy1, rfl⟩ := p2
  clear F1 N e2 lifted
  (try dsimp only); (try k_fold)
  (repeat' (first | (walk_at "mrng"; walk_at "mman"; walk_at "mw")))
  with_reducible rename Fr _ _ _ _ => F3
  with_reducible rename News _ _ _ _ => N3
  have hs4 : @Ne Nat (L + 1 + 1 + 1 + 1) sa := ne2 _ (.head _)
  have hs3 : @Ne Nat (L + 1 + 1 + 1) sa := ne2 _ (.tail _ (.head _))
  have hs2 : @Ne Nat (L + 1 + 1) sa := ne2 _ (.tail _ (.tail _ (.head _)))
  have hs1 : @Ne Nat (L + 1) sa := ne2 _ (.tail _ (.tail _ (.tail _ (.head _))))
  have hs0 : @Ne Nat 44 sa := ne2 _ (.tail _ (.tail _ (.tail _ (.tail _ (.head _)))))
  refine stCN (own := [(sa, listOf #[.int x tx, .int y ty] nn), (L + 1 + 1 + 1 + 1, cs1), (L + 1 + 1 + 1, cs2), (L + 1 + 1, cs3)]) (rest := [(44, tabObj #[])]) F3 N3 rfl dd4 (List.forall_mem_cons.mpr ⟨by (show @Ne Nat _ _; first | assumption | exact Ne.symm (by assumption) | omega), List.forall_mem_cons.mpr ⟨by (show @Ne Nat _ _; first | assumption | exact Ne.symm (by assumption) | omega), List.forall_mem_cons.mpr ⟨by (show @Ne Nat _ _; first | assumption | exact Ne.symm (by assumption) | omega), List.forall_mem_cons.mpr ⟨by (show @Ne Nat _ _; first | assumption | exact Ne.symm (by assumption) | omega), List.forall_mem_nil _⟩⟩⟩⟩) (List.forall_mem_cons.mpr ⟨by (show @Ne Nat _ _; first | assumption | exact Ne.symm (by assumption) | omega), List.forall_mem_nil _⟩) ?_
  intro h3 o1 F4 N4 hd1
  clear F3 N3 dd4
  (try dsimp only); (try k_fold)
  (repeat' (first | (walk_at "mrng"; walk_at "mman"; walk_at "mw")))
  with_reducible rename Fr _ _ _ _ => F3
  with_reducible rename News _ _ _ _ => N3
  refine tree_new_N F3 N3 X T (hA.le (by omega) (by omega)) ?_
  intro ad h4 tk4 F4 N4 hT4 hf4
  clear F3 N3
  have hoA : OffB h₀ L ad.all := fun a ha => ⟨(hf4 a ha).1, (hf4 a ha).2.1⟩
  have qs : sa ∉ ad.all := fun q => (hf4 _ q).2.2 _ (.head _) rfl
  have q4 : (L + 1 + 1 + 1 + 1) ∉ ad.all := fun q => (hf4 _ q).2.2 _ (.tail _ (.head _)) rfl
  have q3 : (L + 1 + 1 + 1) ∉ ad.all := fun q => (hf4 _ q).2.2 _ (.tail _ (.tail _ (.head _))) rfl
  have q2 : (L + 1 + 1) ∉ ad.all := fun q => (hf4 _ q).2.2 _ (.tail _ (.tail _ (.tail _ (.head _)))) rfl
  have q1 : (L + 1) ∉ ad.all := fun q => (hf4 _ q).2.2 _ (.tail _ (.tail _ (.tail _ (.tail _ (.head _))))) rfl
  have q0 : 44 ∉ ad.all := fun q => (hf4 _ q).2.2 _ (.tail _ (.tail _ (.tail _ (.tail _ (.tail _ (.head _)))))) rfl
  clear hf4
  have hDs : DocH h4 sa [] ad := ⟨⟨x, y, tx, ty, nn, hy0, hy1, N4.get (.head _)⟩, hT4, qs⟩
  have hoff : OffB h₀ L (dfoot sa ad) := fun a ha => by
    rcases List.mem_cons.mp ha with rfl | ha
    · exact ⟨(N4 _ (.head _)).2.2, (N4 _ (.head _)).2.1⟩
    · exact hoA a ha
  replace N4 : News h₀ L h4 ([(L + 1 + 1 + 1 + 1, cs1), (L + 1 + 1 + 1, cs2)] ++ (L + 1 + 1, cs3) :: (L + 1, o1) :: (44, tabObj #[]) :: (sa, (h4.get? sa).getD (tupObj [])) :: objsAt h4 ad.all) := news_app (news := [(L + 1 + 1 + 1 + 1, cs1), (L + 1 + 1 + 1, cs2), (L + 1 + 1, cs3), (L + 1, o1), (44, tabObj #[])]) (cb_drop N4 (fun p hp => .tail _ hp)) (docH_led hDs hoff)
  (try dsimp only); (try k_fold)
  refine stCN F4 N4 rfl dd3 (List.forall_mem_cons.mpr ⟨by (show @Ne Nat _ _; first | assumption | exact Ne.symm (by assumption) | omega), List.forall_mem_cons.mpr ⟨by (show @Ne Nat _ _; first | assumption | exact Ne.symm (by assumption) | omega), List.forall_mem_nil _⟩⟩) (List.forall_mem_cons.mpr ⟨by (show @Ne Nat _ _; omega), List.forall_mem_cons.mpr ⟨by (show @Ne Nat _ _; omega), List.forall_mem_cons.mpr ⟨Ne.symm hs2, fun p hp e => by
    obtain ⟨a, ha, rfl⟩ := List.mem_map.mp hp
    exact q2 (e ▸ ha)⟩⟩⟩) ?_
  intro h5 o2 F5 N5 hd2
  have hD5 := (docH_now hDs (cb_drop N5 (fun p hp => .tail _ (.tail _ (.tail _ (.tail _ (.tail _ hp))))))).1
  replace N5 : News h₀ L h5 [(L + 1 + 1 + 1 + 1, cs1), (L + 1 + 1 + 1, cs2), (L + 1 + 1, o2), (L + 1, o1), (44, tabObj #[])] := cb_drop N5 (fun p hp => by simp at hp ⊢; rcases hp with rfl | rfl | rfl | rfl | rfl <;> simp)
  have hnc : ∀ (a1 a2 a3 a4 a5 : Obj), ∀ q ∈ [(L + 1 + 1 + 1 + 1, a1), (L + 1 + 1 + 1, a2), (L + 1 + 1, a3), (L + 1, a4), (44, a5)], q.1 ∉ dfoot sa ad := fun _ _ _ _ _ => by
    have key : ∀ c, @Ne Nat c sa → c ∉ ad.all → c ∉ dfoot sa ad := fun c h1 h2 h => (List.mem_cons.mp h).elim h1 h2
    exact List.forall_mem_cons.mpr ⟨key _ hs4 q4, List.forall_mem_cons.mpr ⟨key _ hs3 q3, List.forall_mem_cons.mpr ⟨key _ hs2 q2, List.forall_mem_cons.mpr ⟨key _ hs1 q1, List.forall_mem_cons.mpr ⟨key _ hs0 q0, List.forall_mem_nil _⟩⟩⟩⟩⟩
  clear N4 F4 hDs hT4 hoA
  (try dsimp only); (try k_fold)
  (repeat' (first | (walk_at "mrng"; walk_at "mman"; walk_at "mw")))
  with_reducible rename Fr _ _ _ _ => F6
  with_reducible rename News _ _ _ _ => N6
  refine (document_T sa [] ad 8 _ (WfR.nil _) (by simp) (by omega) (by omega)).use F6 N6 X T hoff (hnc _ _ _ _ _) (hA.le (by omega) (by omega)) hD5 fun v T1 ad1 h7 tk7 F7 N7 hoff7 hn7 hD7 e7 p7 => ?_
  obtain ⟨t7, rfl, hI7, hK7⟩ : ∃ t, v = .int ((0 : Nat) : Int) t ∧ DocI 0 T1 [] 10 ∧ Kept [] T1 := p7
  rw [← e7] at hd2
  clear F6 N6 hoff hnc hD5 hK7 e7 qs q4 q3 q2 q1 q0
  have hI7l := hI7.le
  (try dsimp only); (try k_fold)
  (repeat' (first | (walk_at "mrng"; walk_at "mman"; walk_at "mw")))
  with_reducible rename Fr _ _ _ _ => F6
  with_reducible rename News _ _ _ _ => N6
  refine (document_T sa T1 ad1 3 _ hI7.wf (by omega) (by omega) (by omega)).use F6 N6 X T hoff7 hn7 (hA.le (by omega) (by omega)) hD7 fun v T2 ad2 h8 tk8 F8 N8 hoff8 hn8 hD8 e8 p8 => ?_
  obtain ⟨t8, rfl, hI8, hK8⟩ := p8
  rw [← e8] at hd2
  clear F6 N6 hoff7 hn7 hD7 e8
  obtain ⟨k0, k1, hW⟩ := two_docs hI7 hI8 hK8
  clear hI7 hI8 hK8
  replace N8 : News h₀ L h8 ((L + 1 + 1 + 1 + 1, cs1) :: (L + 1 + 1 + 1, cs2) :: (L + 1 + 1, o2) :: (L + 1, o1) :: (44, tabObj #[]) :: (sa, (h8.get? sa).getD (tupObj [])) :: objsAt h8 ad2.all) := news_app (news := [(L + 1 + 1 + 1 + 1, cs1), (L + 1 + 1 + 1, cs2), (L + 1 + 1, o2), (L + 1, o1), (44, tabObj #[])]) N8 (docH_led hD8 hoff8)
  (try dsimp only); (try k_fold)
  (repeat' (first | (walk_at "mrng"; walk_at "mman"; walk_at "mw")))
  with_reducible rename Fr _ _ _ _ => F9
  with_reducible rename News _ _ _ _ => N9
  with_reducible rename (_ ∧ _ ∧ _ ∧ _ ∧ _ ∧ _ ∧ AllLt _ _) => l9
  rename_i ra h9a h9
  have hT8 := hD8.tree
  have hra : ra ∉ dfoot sa ad2 := allLt_off l9.2.2.2.2.2.1 l9.2.2.2.2.2.2
  have hr4 := Nat.ne_of_gt l9.1
  have hr3 := Nat.ne_of_gt l9.2.1
  have hr2 := Nat.ne_of_gt l9.2.2.1
  have hr1 := Nat.ne_of_gt l9.2.2.2.1
  have hr0 := Nat.ne_of_gt l9.2.2.2.2.1
  clear l9
  have hw0 := hW.len0
  have hw1 := hW.len1
  have hWl := hW.len
  refine LCg.Assign_ListComp_U F9 rfl (by with_unfolding_all rfl) (by with_unfolding_all rfl) (by decide) (by rfl) (by decide) (by rfl) (by rfl) (by rfl) ?_
  (try dsimp only)
  (repeat' (first | (walk_at "mrng"; walk_at "mman"; walk_at "mw")))
  refine LCg.CompSrc.ledger (k := 0) hA.hd F9 N9 (.head _) (by rw [sizeLine_eq]; simp) fun g => ?_
  refine LCg.CompRest.succ fun v I oI C oC D m₂ h10 tk10 E' hv hC10 hm10 F10 N10 off10 ne10 => ?_
  obtain rfl : Value.int ((0 : Nat) : Int) t7 = v := Option.some.inj hv
  (try dsimp only)
  (repeat' (first | (walk_at "mrng"; walk_at "mman"; walk_at "mw")))
  (refine' Reads1.useNew (law_walk_S T2 ad2 T2.length 0 _ k0 _ (row_get (Nat.lt_trans hW.lt hW.lt1)) hW.f0 hW.d0 (by omega)) ?F9 ?N9 ?X9 ?T9 ?A9 ?p9 ?_; (case F9 => with_reducible assumption); (case N9 => with_reducible assumption); (case X9 => with_reducible assumption); (case T9 => with_reducible assumption); (case A9 => (walk_at "mA")); (case p9 => (walk_at "mT"))); intro w0 o9 h9 tk9 F9 N9 ne9 e9 p9; obtain ⟨v0, c0, rfl, hI0⟩ := p9; (try dsimp only)
  refine LCg.CompEnd.intro F9 N9 ((w0, listOf v0.toArray c0) :: (ra, listOf #[Value.int ((0 : Nat) : Int) t7, Value.int (T1.length : Nat) t8] 0) :: (L + 1 + 1 + 1 + 1, cs1) :: (L + 1 + 1 + 1, cs2) :: (L + 1 + 1, o2) :: (L + 1, o1) :: (44, tabObj #[]) :: (sa, (h8.get? sa).getD (tupObj [])) :: objsAt h8 ad2.all) (fun p hp => by simp at hp ⊢; rcases hp with h | h | h | h | h <;> simp [h]) ⟨⟨Ne.symm (ne9 _ (.head _)), Ne.symm (ne9 _ (.tail _ (.head _))), Ne.symm (ne9 _ (.tail _ (.tail _ (.head _))))⟩, off10⟩ (.inr ⟨_, .tail _ (.head _), rfl, _, rfl⟩) ?_
  have hf0 := off_of_ne (fun p hp => ne9 p (.tail _ (.tail _ (.tail _ (.tail _ (.tail _ (.tail _ (.tail _ (.tail _ (.tail _ hp))))))))))
  clear F9 N9 F10 N10 hm10 hC10 hv e9 ne9
  refine LCg.CompRest.succ fun v I oI C oC D m₂ h10 tk10 E' hv hC10 hm10 F10 N10 off10 ne10 => ?_
  obtain rfl : Value.int (T1.length : Nat) t8 = v := Option.some.inj hv
  (try dsimp only)
  (repeat' (first | (walk_at "mrng"; walk_at "mman"; walk_at "mw")))
  (refine' Reads1.useNew (law_walk_S T2 ad2 T2.length T1.length _ k1 _ (row_get hW.lt1) hW.f1 hW.d1 (by omega)) ?F9 ?N9 ?X9 ?T9 ?A9 ?p9 ?_; (case F9 => with_reducible assumption); (case N9 => with_reducible assumption); (case X9 => with_reducible assumption); (case T9 => with_reducible assumption); (case A9 => (walk_at "mA")); (case p9 => (walk_at "mT"))); intro w1 o9 h9 tk9 F9 N9 ne9 e9 p9; obtain ⟨v1, c1, rfl, hI1⟩ := p9; (try dsimp only)
  refine LCg.CompEnd.intro F9 N9 ((w1, listOf v1.toArray c1) :: (w0, listOf v0.toArray c0) :: (ra, listOf #[Value.int ((0 : Nat) : Int) t7, Value.int (T1.length : Nat) t8] 0) :: (L + 1 + 1 + 1 + 1, cs1) :: (L + 1 + 1 + 1, cs2) :: (L + 1 + 1, o2) :: (L + 1, o1) :: (44, tabObj #[]) :: (sa, (h8.get? sa).getD (tupObj [])) :: objsAt h8 ad2.all) (fun p hp => by simp at hp ⊢; rcases hp with h | h | h | h | h <;> simp [h]) ⟨⟨Ne.symm (ne9 _ (.head _)), Ne.symm (ne9 _ (.tail _ (.head _))), Ne.symm (ne9 _ (.tail _ (.tail _ (.head _))))⟩, off10⟩ (.inr ⟨_, .tail _ (.tail _ (.head _)), rfl, _, rfl⟩) ?_
  have hf1 := off_of_ne (fun p hp => ne9 p (.tail _ (.tail _ (.tail _ (.tail _ (.tail _ (.tail _ (.tail _ (.tail _ (.tail _ (.tail _ hp)))))))))))
  clear F9 N9 F10 N10 hm10 hC10 hv e9 ne9
  refine LCg.CompRest.zero fun wa h11 tk11 F11 N11 off11 => ?_
  replace N11 : News h₀ L h11 ((wa, listOf #[Value.ref w0, Value.ref w1] 2) :: (w1, listOf v1.toArray c1) :: (w0, listOf v0.toArray c0) :: (ra, listOf #[Value.int ((0 : Nat) : Int) t7, Value.int (T1.length : Nat) t8] 0) :: (L + 1 + 1 + 1 + 1, cs1) :: (L + 1 + 1 + 1, cs2) :: (L + 1 + 1, o2) :: (L + 1, o1) :: (44, tabObj #[]) :: (sa, (h8.get? sa).getD (tupObj [])) :: objsAt h8 ad2.all) := N11
  (try dsimp only); (try k_fold)
  (repeat' (first | (walk_at "mrng"; walk_at "mman"; walk_at "mw")))
  with_reducible rename Fr _ _ _ _ => F12
  with_reducible rename News _ _ _ _ => N12
  with_reducible rename (_ ∧ _ ∧ _ ∧ _ ∧ _ ∧ _ ∧ _ ∧ _ ∧ _ ∧ _ ∧ AllLt _ _) => l12
  with_reducible rename IntsAre _ (natInts _ ++ natInts _) => hIw
  rename_i wl vw h12
  replace hIw : IntsAre vw (natInts (whl T2 0 T1.length k0 k1)) := by unfold whl; rw [natInts_append]; exact hIw
  have hwl := allLt_off l12.2.2.2.2.2.2.2.2.2.1 l12.2.2.2.2.2.2.2.2.2.2
  have hwl44 : @Ne Nat wl 44 := Nat.ne_of_gt l12.2.2.2.2.2.2.2.2.1
  have hwa : wa ∉ dfoot sa ad2 := off_of_ne (fun p hp => off1_mem off11 p (.tail _ (.tail _ (.tail _ (.tail _ (.tail _ (.tail _ (.tail _ (.tail _ hp)))))))))
  clear l12 off11
  refine stCM (keep := (wl, listOf vw.toArray 0) :: (wa, listOf #[Value.ref w0, Value.ref w1] 2) :: (w1, listOf v1.toArray c1) :: (w0, listOf v0.toArray c0) :: (ra, listOf #[Value.int ((0 : Nat) : Int) t7, Value.int (T1.length : Nat) t8] 0) :: (L + 1 + 1 + 1 + 1, cs1) :: (L + 1 + 1, o2) :: (L + 1, o1) :: (44, tabObj #[]) :: (sa, (h8.get? sa).getD (tupObj [])) :: objsAt h8 ad2.all) F12 N12 rfl (by k_mem) dd2 (List.forall_mem_cons.mpr ⟨⟨by k_mem, .inr (fun v h => by cases h)⟩, List.forall_mem_cons.mpr ⟨⟨by k_mem, .inr (fun v h => by cases h)⟩, List.forall_mem_cons.mpr ⟨⟨by k_mem, .inr (fun v h => by cases h)⟩, List.forall_mem_cons.mpr ⟨⟨by k_mem, .inr (fun v h => by cases h)⟩, List.forall_mem_cons.mpr ⟨⟨by k_mem, .inr (fun v h => by cases h)⟩, List.forall_mem_cons.mpr ⟨⟨by k_mem, .inl (by (show @Ne Nat _ _; omega))⟩, List.forall_mem_cons.mpr ⟨⟨by k_mem, .inl (by (show @Ne Nat _ _; omega))⟩, List.forall_mem_cons.mpr ⟨⟨by k_mem, .inl (by (show @Ne Nat _ _; omega))⟩, List.forall_mem_cons.mpr ⟨⟨by k_mem, .inl (by (show @Ne Nat _ _; omega))⟩, led_cell (hn8 _ (.tail _ (.head _))) (fun p hp => .tail _ (.tail _ (.tail _ (.tail _ (.tail _ (.tail _ (.tail _ (.tail _ (.tail _ (.tail _ hp))))))))))⟩⟩⟩⟩⟩⟩⟩⟩⟩) ?_
  intro h13 o3 F13 N13 hd3
  clear F12 N12
  (try dsimp only); (try k_fold)
  (repeat' (first | (walk_at "mrng"; walk_at "mman"; walk_at "mw")))
  with_reducible rename Fr _ _ _ _ => F14
  with_reducible rename News _ _ _ _ => N14
  walk_at "exec Assign"
  refine LCg.ListComp_U F14 (by with_unfolding_all rfl) (by decide) (by rfl) (by decide) (by rfl) ?_
  (try dsimp only)
  (repeat' (first | (walk_at "mrng"; walk_at "mman"; walk_at "mw")))
  with_reducible rename Fr _ _ _ _ => F15
  with_reducible rename News _ _ _ _ => N15
  refine range1_rows F15 N15 ?_
  intro h16 tk16 u1 u2 u3 hR16 F16 N16 k16
  have hb : ∀ q ∈ [(L + 1 + 1 + 1, o3), (wl, listOf vw.toArray 0), (wa, listOf #[Value.ref w0, Value.ref w1] 2), (w1, listOf v1.toArray c1), (w0, listOf v0.toArray c0), (ra, listOf #[Value.int ((0 : Nat) : Int) t7, Value.int (T1.length : Nat) t8] 0), (L + 1 + 1 + 1 + 1, cs1), (L + 1 + 1, o2), (L + 1, o1), (44, tabObj #[])], q.1 ∉ dfoot sa ad2 := List.forall_mem_cons.mpr ⟨hn8 (_, cs2) (.tail _ (.head _)), List.forall_mem_cons.mpr ⟨hwl, List.forall_mem_cons.mpr ⟨hwa, List.forall_mem_cons.mpr ⟨hf1, List.forall_mem_cons.mpr ⟨hf0, List.forall_mem_cons.mpr ⟨hra, List.forall_mem_cons.mpr ⟨hn8 _ (.head _), List.forall_mem_cons.mpr ⟨hn8 _ (.tail _ (.tail _ (.head _))), List.forall_mem_cons.mpr ⟨hn8 _ (.tail _ (.tail _ (.tail _ (.head _)))), List.forall_mem_cons.mpr ⟨hn8 _ (.tail _ (.tail _ (.tail _ (.tail _ (.head _))))), List.forall_mem_nil _⟩⟩⟩⟩⟩⟩⟩⟩⟩⟩
  have hwlen := hW.lenW
  refine LCg.CompSrc.range (n := 6) hA.hd F16 N16 hR16 (small_nat (r := 6) (by omega)) (by rw [rangeSize_nat]; rfl) (by rw [sizeLine_eq]; omega) fun g => ?_
  refine rest_range (n := 6) (fun i ys news => ∃ (g : Heap) (sm : List Nat), DocH g sa T2 ad2 ∧ IntsAre ys (natInts sm) ∧ sm.length = i ∧ (∀ x ∈ sm, x ∈ whl T2 0 T1.length k0 k1) ∧ news = [(L + 1 + 1 + 1, o3), (wl, listOf vw.toArray 0), (wa, listOf #[Value.ref w0, Value.ref w1] 2), (w1, listOf v1.toArray c1), (w0, listOf v0.toArray c0), (ra, listOf #[Value.int ((0 : Nat) : Int) t7, Value.int (T1.length : Nat) t8] 0), (L + 1 + 1 + 1 + 1, cs1), (L + 1 + 1, o2), (L + 1, o1), (44, tabObj #[])] ++ ((sa, (g.get? sa).getD (tupObj [])) :: objsAt g ad2.all)) ?_ ?_ 6 0 [] _ rfl ⟨h8, [], hD8, .nil, rfl, by simp, rfl⟩
  · rintro i ys news t I oI C oC D m₂ h10 tk10 E' hi6 ⟨g10, sm, hDg, hIs, hsl, hsw, rfl⟩ hC10 hm10 F10 N10 off10 ne10
    have hD10 := (docH_now hDg (cb_drop N10 (fun p hp => .tail _ (.tail _ (.tail _ (List.mem_append.mpr (.inr hp))))))).1
    obtain ⟨o1I, o1C, o1D⟩ := led_off3 off10
    have N11 : News h₀ L h10 ((I, oI) :: (C, oC) :: (D, LCg.lst ys) :: [(L + 1 + 1 + 1, o3), (wl, listOf vw.toArray 0), (wa, listOf #[Value.ref w0, Value.ref w1] 2), (w1, listOf v1.toArray c1), (w0, listOf v0.toArray c0), (ra, listOf #[Value.int ((0 : Nat) : Int) t7, Value.int (T1.length : Nat) t8] 0), (L + 1 + 1 + 1 + 1, cs1), (L + 1 + 1, o2), (L + 1, o1), (44, tabObj #[])]) := cb_drop N10 (fun p hp => by
      rcases List.mem_cons.mp hp with rfl | hp
      · exact .head _
      rcases List.mem_cons.mp hp with rfl | hp
      · exact .tail _ (.head _)
      rcases List.mem_cons.mp hp with rfl | hp
      · exact .tail _ (.tail _ (.head _))
      exact .tail _ (.tail _ (.tail _ (List.mem_append.mpr (.inl hp)))))
    clear N10 F16 N16 F15 N15 hR16 k16
    (try dsimp only)
    (repeat' (first | (walk_at "mrng"; walk_at "mman"; walk_at "mw")))
    refine one_I hIw hwlen.2 (by omega) (.tail _ (.tail _ (.tail _ (.tail _ (.head _))))) F10 N11 X T hoff8 (List.forall_mem_cons.mpr ⟨o1I, List.forall_mem_cons.mpr ⟨o1C, List.forall_mem_cons.mpr ⟨o1D, hb⟩⟩⟩) (hA.le (by omega) (by omega)) hD10 fun e te h12 tk12 F12 N12 hD12 he => ?_
    refine LCg.CompEnd.intro F12 (news_app N12 (docH_led hD12 hoff8)) ([(L + 1 + 1 + 1, o3), (wl, listOf vw.toArray 0), (wa, listOf #[Value.ref w0, Value.ref w1] 2), (w1, listOf v1.toArray c1), (w0, listOf v0.toArray c0), (ra, listOf #[Value.int ((0 : Nat) : Int) t7, Value.int (T1.length : Nat) t8] 0), (L + 1 + 1 + 1 + 1, cs1), (L + 1 + 1, o2), (L + 1, o1), (44, tabObj #[])] ++ ((sa, (h12.get? sa).getD (tupObj [])) :: objsAt h12 ad2.all)) (fun p hp => by
      rcases List.mem_cons.mp hp with rfl | hp
      · exact .head _
      rcases List.mem_cons.mp hp with rfl | hp
      · exact .tail _ (.head _)
      rcases List.mem_cons.mp hp with rfl | hp
      · exact .tail _ (.tail _ (.head _))
      exact .tail _ (.tail _ (.tail _ hp))) (off3_led off10) trivial ⟨h12, sm ++ [e], hD12, ints_snoc hIs, by simp [hsl], ?_, rfl⟩
    intro x hx
    rcases List.mem_append.mp hx with h | h
    · exact hsw x h
    · rw [List.mem_singleton.mp h]; exact he
  · rintro ys news ⟨g10, sm, hDg, hIs, hsl, hsw, rfl⟩ sl h11 tk11 F11 N11 off11
    obtain ⟨hDn, _⟩ := docH_now hDg (cb_drop N11 (fun p hp => .tail _ (List.mem_append.mpr (.inr hp))))
    have hsl0 : sl ∉ dfoot sa ad2 := off_of_ne (fun p hp => off1_mem off11 p (List.mem_append.mpr (.inr hp)))
    refine stCM (keep := (sl, listOf ys.toArray ys.length) :: (L + 1 + 1 + 1, o3) :: (wl, listOf vw.toArray 0) :: (wa, listOf #[Value.ref w0, Value.ref w1] 2) :: (w1, listOf v1.toArray c1) :: (w0, listOf v0.toArray c0) :: (ra, listOf #[Value.int ((0 : Nat) : Int) t7, Value.int (T1.length : Nat) t8] 0) :: (L + 1 + 1, o2) :: (L + 1, o1) :: (44, tabObj #[]) :: (sa, (g10.get? sa).getD (tupObj [])) :: objsAt g10 ad2.all) F11 N11 rfl (by k_mem) dd1 (List.forall_mem_cons.mpr ⟨⟨by k_mem, .inr (fun v h => by cases h)⟩, List.forall_mem_cons.mpr ⟨⟨by k_mem, .inl (by (show @Ne Nat _ _; omega))⟩, List.forall_mem_cons.mpr ⟨⟨by k_mem, .inr (fun v h => by cases h)⟩, List.forall_mem_cons.mpr ⟨⟨by k_mem, .inr (fun v h => by cases h)⟩, List.forall_mem_cons.mpr ⟨⟨by k_mem, .inr (fun v h => by cases h)⟩, List.forall_mem_cons.mpr ⟨⟨by k_mem, .inr (fun v h => by cases h)⟩, List.forall_mem_cons.mpr ⟨⟨by k_mem, .inr (fun v h => by cases h)⟩, List.forall_mem_cons.mpr ⟨⟨by k_mem, .inl (by (show @Ne Nat _ _; omega))⟩, List.forall_mem_cons.mpr ⟨⟨by k_mem, .inl (by (show @Ne Nat _ _; omega))⟩, List.forall_mem_cons.mpr ⟨⟨by k_mem, .inl (by (show @Ne Nat _ _; omega))⟩, led_cell (hn8 (_, cs1) (.head _)) (fun p hp => .tail _ (List.mem_append.mpr (.inr hp)))⟩⟩⟩⟩⟩⟩⟩⟩⟩⟩) ?_
    intro h13 o4 F13 N13 hd4
    clear F11 N11 off11 hDn
    have hb2' : ∀ q ∈ [(L + 1 + 1 + 1 + 1, o4), (sl, listOf ys.toArray ys.length), (L + 1 + 1 + 1, o3), (wl, listOf vw.toArray 0), (wa, listOf #[Value.ref w0, Value.ref w1] 2), (w1, listOf v1.toArray c1), (w0, listOf v0.toArray c0), (ra, listOf #[Value.int ((0 : Nat) : Int) t7, Value.int (T1.length : Nat) t8] 0), (L + 1 + 1, o2), (L + 1, o1)], q.1 ∉ dfoot sa ad2 := List.forall_mem_cons.mpr ⟨hn8 (_, cs1) (.head _), List.forall_mem_cons.mpr ⟨hsl0, List.forall_mem_cons.mpr ⟨hn8 (_, cs2) (.tail _ (.head _)), List.forall_mem_cons.mpr ⟨hwl, List.forall_mem_cons.mpr ⟨hwa, List.forall_mem_cons.mpr ⟨hf1, List.forall_mem_cons.mpr ⟨hf0, List.forall_mem_cons.mpr ⟨hra, List.forall_mem_cons.mpr ⟨hn8 (_, o2) (.tail _ (.tail _ (.head _))), List.forall_mem_cons.mpr ⟨hn8 (_, o1) (.tail _ (.tail _ (.tail _ (.head _)))), List.forall_mem_nil _⟩⟩⟩⟩⟩⟩⟩⟩⟩⟩
    have h44d : 44 ∉ dfoot sa ad2 := hn8 (44, tabObj #[]) (.tail _ (.tail _ (.tail _ (.tail _ (.head _)))))
    have hb44' : ∀ q ∈ [(L + 1 + 1 + 1 + 1, o4), (sl, listOf ys.toArray ys.length), (L + 1 + 1 + 1, o3), (wl, listOf vw.toArray 0), (wa, listOf #[Value.ref w0, Value.ref w1] 2), (w1, listOf v1.toArray c1), (w0, listOf v0.toArray c0), (ra, listOf #[Value.int ((0 : Nat) : Int) t7, Value.int (T1.length : Nat) t8] 0), (L + 1 + 1, o2), (L + 1, o1)], q.1 ≠ 44 := List.forall_mem_cons.mpr ⟨by (show @Ne Nat _ _; omega), List.forall_mem_cons.mpr ⟨list_ne_tab N13 (by k_mem) (by k_mem), List.forall_mem_cons.mpr ⟨by (show @Ne Nat _ _; omega), List.forall_mem_cons.mpr ⟨list_ne_tab N13 (by k_mem) (by k_mem), List.forall_mem_cons.mpr ⟨list_ne_tab N13 (by k_mem) (by k_mem), List.forall_mem_cons.mpr ⟨list_ne_tab N13 (by k_mem) (by k_mem), List.forall_mem_cons.mpr ⟨list_ne_tab N13 (by k_mem) (by k_mem), List.forall_mem_cons.mpr ⟨list_ne_tab N13 (by k_mem) (by k_mem), List.forall_mem_cons.mpr ⟨by (show @Ne Nat _ _; omega), List.forall_mem_cons.mpr ⟨by (show @Ne Nat _ _; omega), List.forall_mem_nil _⟩⟩⟩⟩⟩⟩⟩⟩⟩⟩
    have hDn := (docH_now hDg (cb_drop N13 (fun p hp => List.mem_cons_of_mem _ (List.mem_cons_of_mem _ (List.mem_cons_of_mem _ (List.mem_cons_of_mem _ (List.mem_cons_of_mem _ (List.mem_cons_of_mem _ (List.mem_cons_of_mem _ (List.mem_cons_of_mem _ (List.mem_cons_of_mem _ (List.mem_cons_of_mem _ (List.mem_cons_of_mem _ hp))))))))))))).1
    have mB : (L + 1 + 1 + 1 + 1, o4) ∈ [(L + 1 + 1 + 1 + 1, o4), (sl, listOf ys.toArray ys.length), (L + 1 + 1 + 1, o3), (wl, listOf vw.toArray 0), (wa, listOf #[Value.ref w0, Value.ref w1] 2), (w1, listOf v1.toArray c1), (w0, listOf v0.toArray c0), (ra, listOf #[Value.int ((0 : Nat) : Int) t7, Value.int (T1.length : Nat) t8] 0), (L + 1 + 1, o2), (L + 1, o1)] ∧ (sl, listOf ys.toArray ys.length) ∈ [(L + 1 + 1 + 1 + 1, o4), (sl, listOf ys.toArray ys.length), (L + 1 + 1 + 1, o3), (wl, listOf vw.toArray 0), (wa, listOf #[Value.ref w0, Value.ref w1] 2), (w1, listOf v1.toArray c1), (w0, listOf v0.toArray c0), (ra, listOf #[Value.int ((0 : Nat) : Int) t7, Value.int (T1.length : Nat) t8] 0), (L + 1 + 1, o2), (L + 1, o1)] ∧ (L + 1 + 1 + 1, o3) ∈ [(L + 1 + 1 + 1 + 1, o4), (sl, listOf ys.toArray ys.length), (L + 1 + 1 + 1, o3), (wl, listOf vw.toArray 0), (wa, listOf #[Value.ref w0, Value.ref w1] 2), (w1, listOf v1.toArray c1), (w0, listOf v0.toArray c0), (ra, listOf #[Value.int ((0 : Nat) : Int) t7, Value.int (T1.length : Nat) t8] 0), (L + 1 + 1, o2), (L + 1, o1)] ∧ (wl, listOf vw.toArray 0) ∈ [(L + 1 + 1 + 1 + 1, o4), (sl, listOf ys.toArray ys.length), (L + 1 + 1 + 1, o3), (wl, listOf vw.toArray 0), (wa, listOf #[Value.ref w0, Value.ref w1] 2), (w1, listOf v1.toArray c1), (w0, listOf v0.toArray c0), (ra, listOf #[Value.int ((0 : Nat) : Int) t7, Value.int (T1.length : Nat) t8] 0), (L + 1 + 1, o2), (L + 1, o1)] ∧ (wa, listOf #[Value.ref w0, Value.ref w1] 2) ∈ [(L + 1 + 1 + 1 + 1, o4), (sl, listOf ys.toArray ys.length), (L + 1 + 1 + 1, o3), (wl, listOf vw.toArray 0), (wa, listOf #[Value.ref w0, Value.ref w1] 2), (w1, listOf v1.toArray c1), (w0, listOf v0.toArray c0), (ra, listOf #[Value.int ((0 : Nat) : Int) t7, Value.int (T1.length : Nat) t8] 0), (L + 1 + 1, o2), (L + 1, o1)] ∧ (w1, listOf v1.toArray c1) ∈ [(L + 1 + 1 + 1 + 1, o4), (sl, listOf ys.toArray ys.length), (L + 1 + 1 + 1, o3), (wl, listOf vw.toArray 0), (wa, listOf #[Value.ref w0, Value.ref w1] 2), (w1, listOf v1.toArray c1), (w0, listOf v0.toArray c0), (ra, listOf #[Value.int ((0 : Nat) : Int) t7, Value.int (T1.length : Nat) t8] 0), (L + 1 + 1, o2), (L + 1, o1)] ∧ (w0, listOf v0.toArray c0) ∈ [(L + 1 + 1 + 1 + 1, o4), (sl, listOf ys.toArray ys.length), (L + 1 + 1 + 1, o3), (wl, listOf vw.toArray 0), (wa, listOf #[Value.ref w0, Value.ref w1] 2), (w1, listOf v1.toArray c1), (w0, listOf v0.toArray c0), (ra, listOf #[Value.int ((0 : Nat) : Int) t7, Value.int (T1.length : Nat) t8] 0), (L + 1 + 1, o2), (L + 1, o1)] ∧ (ra, listOf #[Value.int ((0 : Nat) : Int) t7, Value.int (T1.length : Nat) t8] 0) ∈ [(L + 1 + 1 + 1 + 1, o4), (sl, listOf ys.toArray ys.length), (L + 1 + 1 + 1, o3), (wl, listOf vw.toArray 0), (wa, listOf #[Value.ref w0, Value.ref w1] 2), (w1, listOf v1.toArray c1), (w0, listOf v0.toArray c0), (ra, listOf #[Value.int ((0 : Nat) : Int) t7, Value.int (T1.length : Nat) t8] 0), (L + 1 + 1, o2), (L + 1, o1)] ∧ (L + 1 + 1, o2) ∈ [(L + 1 + 1 + 1 + 1, o4), (sl, listOf ys.toArray ys.length), (L + 1 + 1 + 1, o3), (wl, listOf vw.toArray 0), (wa, listOf #[Value.ref w0, Value.ref w1] 2), (w1, listOf v1.toArray c1), (w0, listOf v0.toArray c0), (ra, listOf #[Value.int ((0 : Nat) : Int) t7, Value.int (T1.length : Nat) t8] 0), (L + 1 + 1, o2), (L + 1, o1)] ∧ (L + 1, o1) ∈ [(L + 1 + 1 + 1 + 1, o4), (sl, listOf ys.toArray ys.length), (L + 1 + 1 + 1, o3), (wl, listOf vw.toArray 0), (wa, listOf #[Value.ref w0, Value.ref w1] 2), (w1, listOf v1.toArray c1), (w0, listOf v0.toArray c0), (ra, listOf #[Value.int ((0 : Nat) : Int) t7, Value.int (T1.length : Nat) t8] 0), (L + 1 + 1, o2), (L + 1, o1)] := ⟨by k_mem, by k_mem, by k_mem, by k_mem, by k_mem, by k_mem, by k_mem, by k_mem, by k_mem, by k_mem⟩
    have N14' : News h₀ L h13 ((44, tabObj #[]) :: (wl, listOf vw.toArray 0) :: (L + 1 + 1 + 1 + 1, o4) :: (sl, listOf ys.toArray ys.length) :: (L + 1 + 1 + 1, o3) :: (wl, listOf vw.toArray 0) :: (wa, listOf #[Value.ref w0, Value.ref w1] 2) :: (w1, listOf v1.toArray c1) :: (w0, listOf v0.toArray c0) :: (ra, listOf #[Value.int ((0 : Nat) : Int) t7, Value.int (T1.length : Nat) t8] 0) :: (L + 1 + 1, o2) :: (L + 1, o1) :: []) := cb_drop N13 (List.forall_mem_cons.mpr ⟨by k_mem, List.forall_mem_cons.mpr ⟨by k_mem, List.forall_mem_cons.mpr ⟨by k_mem, List.forall_mem_cons.mpr ⟨by k_mem, List.forall_mem_cons.mpr ⟨by k_mem, List.forall_mem_cons.mpr ⟨by k_mem, List.forall_mem_cons.mpr ⟨by k_mem, List.forall_mem_cons.mpr ⟨by k_mem, List.forall_mem_cons.mpr ⟨by k_mem, List.forall_mem_cons.mpr ⟨by k_mem, List.forall_mem_cons.mpr ⟨by k_mem, List.forall_mem_cons.mpr ⟨by k_mem, List.forall_mem_nil _⟩⟩⟩⟩⟩⟩⟩⟩⟩⟩⟩⟩)
    obtain ⟨B, hb2, hb44, mB, N14⟩ : ∃ B : List (Addr × Obj), (∀ q ∈ B, q.1 ∉ dfoot sa ad2) ∧ (∀ q ∈ B, q.1 ≠ 44) ∧ ((L + 1 + 1 + 1 + 1, o4) ∈ B ∧ (sl, listOf ys.toArray ys.length) ∈ B ∧ (L + 1 + 1 + 1, o3) ∈ B ∧ (wl, listOf vw.toArray 0) ∈ B ∧ (wa, listOf #[Value.ref w0, Value.ref w1] 2) ∈ B ∧ (w1, listOf v1.toArray c1) ∈ B ∧ (w0, listOf v0.toArray c0) ∈ B ∧ (ra, listOf #[Value.int ((0 : Nat) : Int) t7, Value.int (T1.length : Nat) t8] 0) ∈ B ∧ (L + 1 + 1, o2) ∈ B ∧ (L + 1, o1) ∈ B) ∧ News h₀ L h13 ((44, tabObj #[]) :: (wl, listOf vw.toArray 0) :: B) := ⟨_, hb2', hb44', mB, N14'⟩
    obtain ⟨mo4, msl, mo3, mwl, mwa, mw1, mw0, mra, mo2, mo1⟩ := mB
    clear hb2' hb44' N14'
    clear N13 hDg
    obtain ⟨wh, ewh⟩ : ∃ x, x = whl T2 0 T1.length k0 k1 := ⟨_, rfl⟩
    obtain ⟨ws0, e0⟩ : ∃ x, x = walk1Of T2 0 k0 := ⟨_, rfl⟩
    obtain ⟨ws1, e1⟩ : ∃ x, x = walk1Of T2 T1.length k1 := ⟨_, rfl⟩
    rw [← ewh] at hIw hsw hwlen
    rw [← e0] at hI0 hw0
    rw [← e1] at hI1 hw1
    have hwh : SameL wh (whl T2 0 T1.length k0 k1) := ewh
    have hS0 : SameL ws0 (walk1Of T2 0 k0) := e0
    have hS1 : SameL ws1 (walk1Of T2 T1.length k1) := e1
    obtain ⟨hwlen, hwpos⟩ := hwlen
    clear ewh e0 e1 hs0 hs1 hs2 hs3 hs4 hr0 hr1 hr2 hr3 hr4
    clear hD8 hT8
    (try dsimp only); (try k_fold)
    (repeat' (first | (walk_at "mifs"; walk_at "mrng"; walk_at "mman"; walk_at "mw")))
    refine wpAny_mono (Q := LawEnd h₀ L B sa wa ra T2 ad2 s1) ?_ ?_ (fun _ _ e => e)
    · replace N14 : News h₀ L h13 ((44, tabObj #[]) :: (wl, listOf vw.toArray 0) :: (B ++ ((sa, (h13.get? sa).getD (tupObj [])) :: objsAt h13 ad2.all))) := news_app N14 (docH_led hDn hoff8)
      have hT13 := hDn.tree
      (try dsimp only); (try k_fold)
      (repeat' (first | (walk_at "mslc"; walk_at "mrng"; walk_at "mman"; walk_at "mw")))
      with_reducible rename Fr _ _ _ _ => F15
      with_reducible rename News _ _ _ _ => N15
      have hvl := hIw.length
      rw [natInts_length] at hvl
      refine krv_ints F15 N15 (PySem.IsL.isList (n := 0) (N15.get (by k_mem))) (IsPart.int _ _) hIw ?_ (by with_unfolding_all rfl) (by kmk_pure) (by rw [sizeLine_eq, List.size_toArray]; omega)
      intro D vr h16 F16 N16 l16 hIr hlr
      clear F15 N15
      (try dsimp only); (try k_fold)
      (repeat' (first | (walk_at "mslc"; walk_at "mrng"; walk_at "mman"; walk_at "mw")))
      have hD16 := (docH_now hDn (cb_drop N16 (fun p hp => .tail _ (.tail _ (.tail _ (List.mem_append_right _ hp)))))).1
      replace hIr : IntsAre vr (natInts wh.reverse) := by rw [show natInts wh.reverse = (natInts wh).reverse from List.map_reverse]; exact hIr
      have hD44 := list_ne_tab N16 (.head _) (.tail _ (.head _))
      replace N16 : News h₀ L h16 ((44, tabObj #[]) :: (wl, listOf vw.toArray 0) :: (D, listOf vr.toArray 0) :: B) := cb_drop N16 (List.forall_mem_cons.mpr ⟨by k_mem, List.forall_mem_cons.mpr ⟨by k_mem, List.forall_mem_cons.mpr ⟨by k_mem, fun p hp => by k_mem⟩⟩⟩)
      refine in_order_L (nodes := wh.reverse) hW hwh (fun y hy => by simpa using hy) (by rw [List.length_reverse]; omega) F16 N16 (hb44 (wl, listOf vw.toArray 0) (by k_mem)) hwl (List.forall_mem_cons.mpr ⟨hD44, hb44⟩) X T (hA.le (by omega) (by omega)) hC hD16 hoff8 h44d (.head _) hIr (.inl rfl) ?_
      intro ia va ca ps17 xa xo h17 tk17 F17 N17 hD17 hx1 hx2 hL17 hIa had har
      rw [filter_all (fun x hx => by simpa using hx)] at hIa
      clear F16 N16 hD16 hT13 hDn l16
      have hT17 := hD17.tree
      replace N17 : News h₀ L h17 ((ia, listOf va.toArray ca) :: (44, tabObj ps17) :: (xa, xo) :: (B ++ ((sa, (h17.get? sa).getD (tupObj [])) :: objsAt h17 ad2.all))) := news_app (news := (ia, listOf va.toArray ca) :: (44, tabObj ps17) :: (xa, xo) :: B) (cb_drop N17 (List.forall_mem_cons.mpr ⟨by k_mem, List.forall_mem_cons.mpr ⟨by k_mem, List.forall_mem_cons.mpr ⟨by k_mem, fun p hp => by k_mem⟩⟩⟩)) (docH_led hD17 hoff8)
      (try dsimp only); (try k_fold)
      (repeat' (first | (walk_at "mslc"; walk_at "mrng"; walk_at "mman"; walk_at "mw")))
      with_reducible rename Fr _ _ _ _ => F18
      with_reducible rename News _ _ _ _ => N18
      refine ne_same N18 (.head _) (by k_mem) hIa hIw hA ?_
      clear hIa har
      replace N18 : News h₀ L h17 ((44, tabObj ps17) :: (xa, xo) :: (B ++ ((sa, (h17.get? sa).getD (tupObj [])) :: objsAt h17 ad2.all))) := fun p hp => N18 p (.tail _ hp)
      (try dsimp only); (try k_fold)
      (repeat' (first | (walk_at "mslc"; walk_at "mrng"; walk_at "mman"; walk_at "mw")))
      with_reducible rename Fr _ _ _ _ => F19
      with_reducible rename News _ _ _ _ => N19
      have hD19 := (docH_now hD17 (cb_drop N19 (fun p hp => .tail _ (.tail _ (.tail _ (List.mem_append_right _ hp)))))).1
      have hE44 := list_ne_tab N19 (.head _) (.tail _ (.head _))
      rename_i e0 h19 l19
      replace N19 : News h₀ L h19 ((44, tabObj ps17) :: (xa, xo) :: (e0, listOf ([] : List Value).toArray 0) :: B) := cb_drop N19 (List.forall_mem_cons.mpr ⟨by k_mem, List.forall_mem_cons.mpr ⟨by k_mem, List.forall_mem_cons.mpr ⟨by k_mem, fun p hp => by k_mem⟩⟩⟩)
      refine in_order_L (nodes := []) hW hwh (by simp) (by simp) F19 N19 hx1 hx2 (List.forall_mem_cons.mpr ⟨hE44, hb44⟩) X T (hA.le (by omega) (by omega)) hC hD19 hoff8 h44d (.head _) .nil hL17 ?_
      clear F19 N19 hD19 hT17 hD17 hx1 hx2 hL17
      intro ia va ca ps17 xa xo h17 tk17 F17 N17 hD17 hx1 hx2 hL17 hIa had har
      replace hIa : IntsAre va (natInts []) := by have e : (wh.filter fun x => decide (x ∈ ([] : List Nat))) = [] := List.filter_eq_nil_iff.mpr (by simp); rw [e] at hIa; exact hIa
      replace N17 : News h₀ L h17 ((ia, listOf va.toArray ca) :: (44, tabObj ps17) :: (xa, xo) :: (B ++ ((sa, (h17.get? sa).getD (tupObj [])) :: objsAt h17 ad2.all))) := news_app (news := (ia, listOf va.toArray ca) :: (44, tabObj ps17) :: (xa, xo) :: B) (cb_drop N17 (List.forall_mem_cons.mpr ⟨by k_mem, List.forall_mem_cons.mpr ⟨by k_mem, List.forall_mem_cons.mpr ⟨by k_mem, fun p hp => by k_mem⟩⟩⟩)) (docH_led hD17 hoff8)
      (try dsimp only); (try k_fold)
      (repeat' (first | (walk_at "mslc"; walk_at "mrng"; walk_at "mman"; walk_at "mw")))
      with_reducible rename Fr _ _ _ _ => F18
      with_reducible rename News _ _ _ _ => N18
      refine ne_same (ys := []) N18 (.tail _ (.head _)) (.head _) hIa .nil hA ?_
      (try dsimp only); (try k_fold)
      (repeat' (first | (walk_at "mslc"; walk_at "mrng"; walk_at "mman"; walk_at "mw")))
      with_reducible rename News _ _ _ _ => N18
      exact .mk rfl F18 rfl rfl (cb_drop N18 (List.forall_mem_cons.mpr ⟨by k_mem, List.forall_mem_cons.mpr ⟨by k_mem, fun p hp => by k_mem⟩⟩)) hx1 hx2 hL17 ((docH_now hD17 (cb_drop N18 (fun p hp => .tail _ (.tail _ (.tail _ (.tail _ (List.mem_append_right _ hp))))))).1)
    · rintro f s' ⟨rfl, h15, tk15, m15, ps15, xa, xo, rfl, F15, m1, m2, N15, hx1, hx2, hLam, hD15⟩
      have F16 := fr_look [(Str.ofString "walks", .ref wa), (Str.ofString "roots", .ref ra)] F15 (List.forall_mem_cons.mpr ⟨by first | rfl | assumption, List.forall_mem_cons.mpr ⟨by first | rfl | assumption, List.forall_mem_nil _⟩⟩)
      clear F15 F13 hDn N14
      have hT15 := hD15.tree
      replace N15 : News h₀ L h15 ((44, tabObj ps15) :: (xa, xo) :: (B ++ ((sa, (h15.get? sa).getD (tupObj [])) :: objsAt h15 ad2.all))) := news_app (news := (44, tabObj ps15) :: (xa, xo) :: B) N15 (docH_led hD15 hoff8)
      (try dsimp only)
      (try k_fold)
      (repeat' (first | (walk_at "mifs"; walk_at "mrng"; walk_at "mman"; walk_at "mw")))
      refine wpAny_mono (Q := LawEnd h₀ L B sa wa ra T2 ad2 s1) ?_ ?_ (fun _ _ e => e)
      · (try dsimp only); (try k_fold)
        (repeat' (first | (walk_at "mslc"; walk_at "mrng"; walk_at "mman"; walk_at "mw")))
        with_reducible rename Fr _ _ _ _ => F17
        with_reducible rename News _ _ _ _ => N17
        replace hD15 := (docH_now hD15 (cb_drop N17 (fun p hp => .tail _ (.tail _ (List.mem_append_right _ hp))))).1
        replace N17 : News h₀ L _ ((44, tabObj ps15) :: (xa, xo) :: B) := cb_drop N17 (List.forall_mem_cons.mpr ⟨by k_mem, List.forall_mem_cons.mpr ⟨by k_mem, fun p hp => by k_mem⟩⟩)
        refine in_order_L (nodes := sm) hW hwh hsw (by omega) F17 N17 hx1 hx2 hb44 X T (hA.le (by omega) (by omega)) hC hD15 hoff8 h44d (by k_mem) hIs hLam ?_
        clear F17 N17 hT15 hx1 hx2 hLam
        intro ia va ca ps17 xa xo h17 tk17 F17 N17 hD17 hx1 hx2 hL17 hIa had har
        replace N17 : News h₀ L h17 ((ia, listOf va.toArray ca) :: (44, tabObj ps17) :: (xa, xo) :: (B ++ ((sa, (h17.get? sa).getD (tupObj [])) :: objsAt h17 ad2.all))) := news_app (news := (ia, listOf va.toArray ca) :: (44, tabObj ps17) :: (xa, xo) :: B) N17 (docH_led hD17 hoff8)
        (try dsimp only); (try k_fold)
        (repeat' (first | (walk_at "mslc"; walk_at "mrng"; walk_at "mman"; walk_at "mw")))
        with_reducible rename Fr _ _ _ _ => F18
        with_reducible rename News _ _ _ _ => N18
        refine LCt.ListComp_T (F₀ := F18) (by with_unfolding_all rfl) (by decide) (by rfl) (by decide) (by rfl) ?_
        (try dsimp only)
        (repeat' (first | (walk_at "mslc"; walk_at "mrng"; walk_at "mman"; walk_at "mw")))
        refine srcT_ints (E := fun _ _ => False) (xs := wh) (news := (ia, listOf va.toArray ca) :: (44, tabObj ps17) :: (xa, xo) :: (B ++ ((sa, (h17.get? sa).getD (tupObj [])) :: objsAt h17 ad2.all))) (fun done _ zs news => IntsAre zs (natInts (done.filter fun x => decide (x ∈ sm))) ∧ news = (ia, listOf va.toArray ca) :: (44, tabObj ps17) :: (xa, xo) :: (B ++ ((sa, (h17.get? sa).getD (tupObj [])) :: objsAt h17 ad2.all))) hA.hd F18 N18 (fun p hp => hp) (by k_mem) hIw (by omega) ⟨.nil, rfl⟩ ?_ ?_
        · rintro done y rest zs news t I oI C oC D m₂ h tk E' hx ⟨hS, rfl⟩ hC9 hm9 F8 N8 off ne
          clear F18 N18
          (try dsimp only)
          (repeat' (first | (walk_at "mslc"; walk_at "mrng"; walk_at "mman"; walk_at "mw")))
          refine in_nats N8 (show (sl, listOf ys.toArray ys.length) ∈ _ by k_mem) hIs ?_
          by_cases hym : y ∈ sm
          · rw [decide_eq_true hym]
            (try dsimp only)
            (repeat' (first | (walk_at "mslc"; walk_at "mrng"; walk_at "mman"; walk_at "mw")))
            refine LCg.CompEnd.intro F8 N8 _ (fun p hp => hp) off (.inr ⟨_, show (wl, listOf vw.toArray 0) ∈ _ by k_mem, rfl, _, rfl⟩) ⟨?_, rfl⟩
            rw [filter_snoc, if_pos (decide_eq_true hym)]
            exact ints_snoc hS
          · rw [decide_eq_false hym]
            (try dsimp only)
            (repeat' (first | (walk_at "mslc"; walk_at "mrng"; walk_at "mman"; walk_at "mw")))
            refine LCg.CompEnd.intro F8 N8 _ (fun p hp => hp) off (.inr ⟨_, show (wl, listOf vw.toArray 0) ∈ _ by k_mem, rfl, _, rfl⟩) ⟨?_, rfl⟩
            rw [filter_snoc, if_neg (by simp [hym]), List.append_nil]
            exact hS
        · rintro g zs news ⟨hS, rfl⟩
          clear F18 N18
          intro D h20 tk20 F20 N20 off20
          (try dsimp only); (try k_fold)
          (repeat' (first | (walk_at "mslc"; walk_at "mrng"; walk_at "mman"; walk_at "mw")))
          refine ne_same N20 (.tail _ (.head _)) (.head _) hIa hS hA ?_
          (try dsimp only); (try k_fold)
          (repeat' (first | (walk_at "mslc"; walk_at "mrng"; walk_at "mman"; walk_at "mw")))
          with_reducible rename News _ _ _ _ => N18
          exact .mk rfl F20 rfl rfl (cb_drop N18 (List.forall_mem_cons.mpr ⟨by k_mem, List.forall_mem_cons.mpr ⟨by k_mem, fun p hp => by k_mem⟩⟩)) hx1 hx2 hL17 ((docH_now hD17 (cb_drop N18 (fun p hp => .tail _ (.tail _ (.tail _ (.tail _ (List.mem_append_right _ hp))))))).1)
      · rintro f s' ⟨rfl, h21, tk21, m21, ps21, xa, xo, rfl, F21, m1, m2, N21, hx1, hx2, hLam, hD21⟩
        have F22 := fr_look [(Str.ofString "walks", .ref wa), (Str.ofString "roots", .ref ra)] F21 (List.forall_mem_cons.mpr ⟨by first | rfl | assumption, List.forall_mem_cons.mpr ⟨by first | rfl | assumption, List.forall_mem_nil _⟩⟩)
        replace N21 : News h₀ L h21 ((44, tabObj ps21) :: B) := cb_drop N21 (List.forall_mem_cons.mpr ⟨by k_mem, fun p hp => by k_mem⟩)
        clear F21 hx1 hx2 hLam xa xo F16 hD15
        (try dsimp only)
        (try k_fold)
        (repeat' (first | (walk_at "mifs"; walk_at "mslc"; walk_at "mrng"; walk_at "mman"; walk_at "mw")))
        with_reducible rename Fr _ _ _ _ => F22
        with_reducible rename News _ _ _ _ => N21
        refine range1_rows F22 N21 ?_
        intro h23 tk23 u1 u2 u3 hR23 F23 N23 k23
        have hD23 := hD21.ext k23
        refine loop_rangeI (n := 4) (news := ((44, tabObj ps21) :: B) ++ ((sa, (h23.get? sa).getD (tupObj [])) :: objsAt h23 ad2.all)) (LawJ ((44, tabObj ps21) :: B) sa wa ra T2 ad2) hA.hd hR23 (small_nat (r := 4) (by omega)) (by rw [rangeSize_nat]; rfl) F23 (news_app N23 (docH_led hD23 hoff8)) (fun p hp => hp) ⟨rfl, rfl, h23, hD23, rfl⟩ ?_ ?_
        · rintro i ti m₁ news₁ h₃ tk₃ I oI hi ⟨m1, m2, g, hDg, rfl⟩ hcl hne F3 N3
          obtain ⟨hD3, _⟩ := docH_now hDg (cb_drop N3 (fun p hp => .tail _ (List.mem_append.mpr (.inr hp))))
          have hIb : ∀ p ∈ (44, tabObj ps21) :: B, p.1 ≠ I := fun p hp => hne p (List.mem_append.mpr (.inl hp))
          have hIn := off_of_ne (fun p hp => hne p (List.mem_append.mpr (.inr hp)))
          have N4 : News h₀ L h₃ ((I, oI) :: (44, tabObj ps21) :: B) := cb_drop N3 (fun p hp => (List.mem_cons.mp hp).elim (fun e => e ▸ .head _) (fun h => .tail _ (List.mem_append.mpr (.inl h))))
          have hb4 : ∀ q ∈ (I, oI) :: (44, tabObj ps21) :: B, q.1 ∉ dfoot sa ad2 := List.forall_mem_cons.mpr ⟨hIn, List.forall_mem_cons.mpr ⟨h44d, hb2⟩⟩
          have F4 := fr_look [(Str.ofString "walks", .ref wa), (Str.ofString "roots", .ref ra)] F3 (List.forall_mem_cons.mpr ⟨by first | rfl | assumption, List.forall_mem_cons.mpr ⟨by first | rfl | assumption, List.forall_mem_nil _⟩⟩)
          clear F3 N3 hDg hne F22 N21 F23 N23 hD21 hD23 hR23 k23
          (try dsimp only); (try k_fold)
          (repeat' (first | (walk_at "mslc"; walk_at "mrng"; walk_at "mman"; walk_at "mw")))
          refine one_I hIw hwpos (by omega) (show (wl, listOf vw.toArray 0) ∈ _ by k_mem) F4 N4 X T hoff8 hb4 (hA.le (by omega) (by omega)) hD3 fun one t1 h5 tk5 F5 N5 hD5 hone => ?_
          clear F4 N4 hD3
          (try dsimp only); (try k_fold)
          (repeat' (first | (walk_at "mslc"; walk_at "mrng"; walk_at "mman"; walk_at "mw")))
          refine one_I hIw hwpos (by omega) (show (wl, listOf vw.toArray 0) ∈ _ by k_mem) F5 N5 X T hoff8 hb4 (hA.le (by omega) (by omega)) hD5 fun other t2 h6 tk6 F6 N6 hD6 hother => ?_
          clear F5 N5 hD5
          have hT6 := hD6.tree
          replace N6 : News h₀ L h6 ((I, oI) :: (44, tabObj ps21) :: (B ++ ((sa, (h6.get? sa).getD (tupObj [])) :: objsAt h6 ad2.all))) := news_app (news := (I, oI) :: (44, tabObj ps21) :: B) N6 (docH_led hD6 hoff8)
          (try dsimp only); (try k_fold)
          (repeat' (first | (walk_at "mifs"; walk_at "mslc"; walk_at "mrng"; walk_at "mman"; walk_at "mw")))
          with_reducible rename Fr _ _ _ _ => F7
          with_reducible rename News _ _ _ _ => N7
          have hone' : one ∈ whl T2 0 T1.length k0 k1 := (show wh = _ from hwh) ▸ hone
          have hother' : other ∈ whl T2 0 T1.length k0 k1 := (show wh = _ from hwh) ▸ hother
          obtain ⟨lo, hco, huo, hlo, hko, hpo⟩ := hW.line (hW.mem one hone')
          obtain ⟨lr, hcr, hur, hlr, hkr, hpr⟩ := hW.line (hW.mem other hother')
          have hbf : lexI (placeL T2 lo.reverse) (placeL T2 lr.reverse) = decide (((wh.idxOf one : Nat) : Int) < ((wh.idxOf other : Nat) : Int)) := by
            rw [← hpo, ← hpr, show wh = _ from hwh, bef_idx hW.pw hone' hother']; simp only [Int.ofNat_lt]
          replace N7 : News h₀ L _ ((I, oI) :: (44, tabObj ps21) :: (B ++ ((sa, (h6.get? sa).getD (tupObj [])) :: objsAt h6 ad2.all))) := fun p hp => N7 p (.tail _ hp)
          clear hcr hpr hpo
          refine wpAny_mono (Q := TurnSt h₀ L ((I, oI) :: (44, tabObj ps21) :: B) sa wa ra T2 ad2 one t1 s1) ?_ ?_ (fun _ _ e => e)
          · (try dsimp only); (try k_fold)
            (repeat' (first | (walk_at "mslc"; walk_at "mrng"; walk_at "mman"; walk_at "mw")))
            (refine' Reads1.use (is_before_S T2 ad2 one other lo lr _ _ huo hlo hko hur hlr hkr) ?F9 ?N9 ?X9 ?T9 ?A9 ?p9 ?_; (case F9 => with_reducible assumption); (case N9 => with_reducible assumption); (case X9 => with_reducible assumption); (case T9 => with_reducible assumption); (case A9 => (walk_at "mA")); (case p9 => (walk_at "mT"))); intro v9 h9 tk9 F9 N9 e9 p9; subst p9; (try dsimp only)
            rw [hbf]
            (try dsimp only); (try k_fold)
            (repeat' (first | (walk_at "mslc"; walk_at "mrng"; walk_at "mman"; walk_at "mw")))
            · rename_i hne9
              simp at hne9
            · exact .mk rfl F9 rfl rfl rfl (cb_drop N9 (List.forall_mem_cons.mpr ⟨by k_mem, List.forall_mem_cons.mpr ⟨by k_mem, fun p hp => by k_mem⟩⟩)) ((docH_now hD6 (cb_drop N9 (fun p hp => .tail _ (.tail _ (List.mem_append_right _ hp))))).1)
          · rintro f s' ⟨rfl, h8, tk8, m8, rfl, F8, g1, g2, g3, N8, hD8⟩
            have F9 := fr_look [(Str.ofString "one", .int (one : Nat) t1), (Str.ofString "walks", .ref wa), (Str.ofString "roots", .ref ra)] F8 (List.forall_mem_cons.mpr ⟨by first | rfl | assumption, List.forall_mem_cons.mpr ⟨by first | rfl | assumption, List.forall_mem_cons.mpr ⟨by first | rfl | assumption, List.forall_mem_nil _⟩⟩⟩)
            clear F8 F7 N7 hT6 hD6 hbf hlr hkr hur hother hother' hko
            have hT8 := hD8.tree
            replace N8 : News h₀ L h8 ((I, oI) :: (44, tabObj ps21) :: (B ++ ((sa, (h8.get? sa).getD (tupObj [])) :: objsAt h8 ad2.all))) := news_app (news := ((I, oI) :: (44, tabObj ps21) :: B)) N8 (docH_led hD8 hoff8)
            (try dsimp only)
            (try k_fold)
            (repeat' (first | (walk_at "mifs"; walk_at "mslc"; walk_at "mrng"; walk_at "mman"; walk_at "mw")))
            with_reducible rename Fr _ _ _ _ => F9
            refine wpAny_mono (Q := TurnSt h₀ L ((I, oI) :: (44, tabObj ps21) :: B) sa wa ra T2 ad2 one t1 s1) ?_ ?_ (fun _ _ e => e)
            · (try dsimp only); (try k_fold)
              (repeat' (first | (walk_at "mslc"; walk_at "mrng"; walk_at "mman"; walk_at "mw")))
              (refine' Reads1.use (root_of_S T2 ad2 one lo _ huo) ?F9 ?N9 ?X9 ?T9 ?A9 ?p9 ?_; (case F9 => with_reducible assumption); (case N9 => with_reducible assumption); (case X9 => with_reducible assumption); (case T9 => with_reducible assumption); (case A9 => (walk_at "mA")); (case p9 => (walk_at "mT"))); intro v9 h9 tk9 F9 N9 e9 p9; obtain ⟨tq, rfl⟩ := p9; (try dsimp only)
              by_cases h0 : one ∈ ws0
              · have htop : lo.getLastD 0 = 0 := top_of hW.wf (by omega) hW.lt0 hW.p0 hW.f0 ((show ws0 = _ from hS0) ▸ h0) hco
                rw [htop]
                (try dsimp only); (try k_fold)
                (repeat' (first | (walk_at "mslc"; walk_at "mrng"; walk_at "mman"; walk_at "mw")))
                refine in_nats N9 (show (w0, listOf v0.toArray c0) ∈ _ by k_mem) hI0 ?_
                rw [decide_eq_true h0]
                (try dsimp only); (try k_fold)
                (repeat' (first | (walk_at "mslc"; walk_at "mrng"; walk_at "mman"; walk_at "mw")))
                with_reducible rename Fr _ _ _ _ => F9
                with_reducible rename News _ _ _ _ => N9
                exact .mk rfl F9 rfl rfl rfl (cb_drop N9 (List.forall_mem_cons.mpr ⟨by k_mem, List.forall_mem_cons.mpr ⟨by k_mem, fun p hp => by k_mem⟩⟩)) ((docH_now hD8 (cb_drop N9 (fun p hp => .tail _ (.tail _ (List.mem_append_right _ hp))))).1)
              · have h1 : one ∈ walk1Of T2 T1.length k1 := (List.mem_append.mp hone').resolve_left ((show ws0 = _ from hS0) ▸ h0)
                have htop : lo.getLastD 0 = T1.length := top_of hW.wf (by omega) hW.lt1 hW.p1 hW.f1 h1 hco
                rw [htop]
                (try dsimp only); (try k_fold)
                (repeat' (first | (walk_at "mslc"; walk_at "mrng"; walk_at "mman"; walk_at "mw")))
                refine in_nats N9 (show (w0, listOf v0.toArray c0) ∈ _ by k_mem) hI0 ?_
                rw [decide_eq_false h0]
                (try dsimp only); (try k_fold)
                (repeat' (first | (walk_at "mslc"; walk_at "mrng"; walk_at "mman"; walk_at "mw")))
                · rename_i hq
                  exact absurd (by rfl) hq
                · with_reducible rename Fr _ _ _ _ => F9
                  with_reducible rename News _ _ _ _ => N9
                  exact .mk rfl F9 rfl rfl rfl (cb_drop N9 (List.forall_mem_cons.mpr ⟨by k_mem, List.forall_mem_cons.mpr ⟨by k_mem, fun p hp => by k_mem⟩⟩)) ((docH_now hD8 (cb_drop N9 (fun p hp => .tail _ (.tail _ (List.mem_append_right _ hp))))).1)
            · rintro f s' ⟨rfl, h10, tk10, m10, rfl, F10, g1, g2, g3, N10, hD10⟩
              have F11 := fr_look [(Str.ofString "one", .int (one : Nat) t1), (Str.ofString "walks", .ref wa), (Str.ofString "roots", .ref ra)] F10 (List.forall_mem_cons.mpr ⟨by first | rfl | assumption, List.forall_mem_cons.mpr ⟨by first | rfl | assumption, List.forall_mem_cons.mpr ⟨by first | rfl | assumption, List.forall_mem_nil _⟩⟩⟩)
              clear F10 F9 N8 hT8 hD8
              have hT10 := hD10.tree
              replace N10 : News h₀ L h10 ((I, oI) :: (44, tabObj ps21) :: (B ++ ((sa, (h10.get? sa).getD (tupObj [])) :: objsAt h10 ad2.all))) := news_app (news := ((I, oI) :: (44, tabObj ps21) :: B)) N10 (docH_led hD10 hoff8)
              (try dsimp only)
              (try k_fold)
              (repeat' (first | (walk_at "mifs"; walk_at "mslc"; walk_at "mrng"; walk_at "mman"; walk_at "mw")))
              with_reducible rename Fr _ _ _ _ => F11
              refine wpAny_mono (Q := TurnSt h₀ L ((I, oI) :: (44, tabObj ps21) :: B) sa wa ra T2 ad2 one t1 s1) ?_ ?_ (fun _ _ e => e)
              · (try dsimp only); (try k_fold)
                have hR := row_get (hW.mem one hone')
                (repeat' (first | (walk_at "mslc"; walk_at "mrng"; walk_at "mman"; walk_at "mw")))
                (refine' Reads1.use (kind_S T2 ad2 one _ _ hR) ?F9 ?N9 ?X9 ?T9 ?A9 ?p9 ?_; (case F9 => with_reducible assumption); (case N9 => with_reducible assumption); (case X9 => with_reducible assumption); (case T9 => with_reducible assumption); (case A9 => (walk_at "mA")); (case p9 => (walk_at "mT"))); intro v9 h9 tk9 F9 N9 e9 p9; obtain ⟨tk9, rfl⟩ := p9; (try dsimp only)
                (try dsimp only); (try k_fold)
                (repeat' (first | (walk_at "mslc"; walk_at "mrng"; walk_at "mman"; walk_at "mw")))
                · with_reducible rename Fr _ _ _ _ => F12
                  with_reducible rename News _ _ _ _ => N12
                  with_reducible rename (List.any _ _ = true) => hpar
                  replace N12 : News h₀ L _ ((I, oI) :: (44, tabObj ps21) :: (B ++ ((sa, (h10.get? sa).getD (tupObj [])) :: objsAt h10 ad2.all))) := fun p hp => N12 p (.tail _ hp)
                  have hpar' : isPar (rowOf T2 one).kind = true := hpar
                  obtain ⟨kx, hkx, hdx⟩ := forest_of hW.wf (hW.mem one hone')
                  have hwx := walk1_len hW.wf (by omega) (hW.mem one hone') hkx
                  have hsx := size_le hW.wf (by omega) (hW.mem one hone') hkx
                  clear hpar
                  refine LCt.Assign_ListComp_T F12 rfl (by with_unfolding_all rfl) (by with_unfolding_all rfl) (by decide) (by rfl) (by decide) (by rfl) (by rfl) (by rfl) ?_
                  (try dsimp only)
                  (repeat' (first | (walk_at "mslc"; walk_at "mrng"; walk_at "mman"; walk_at "mw")))
                  (refine' Reads1.useNew (law_walk_S T2 ad2 T2.length one _ kx _ hR hkx hdx (by omega)) ?F9 ?N9 ?X9 ?T9 ?A9 ?p9 ?_; (case F9 => with_reducible assumption); (case N9 => with_reducible assumption); (case X9 => with_reducible assumption); (case T9 => with_reducible assumption); (case A9 => (walk_at "mA")); (case p9 => (walk_at "mT"))); intro pw o9 h9 tk9 F9 N9 ne9 e9 p9; obtain ⟨vp, cp, rfl, hIp⟩ := p9; (try dsimp only)
                  obtain ⟨tp, vr, rfl, hIt⟩ : ∃ tp vr, vp = Value.int (one : Nat) tp :: vr ∧ IntsAre vr (natInts (walk1Of T2 one kx).tail) := by
                    have hc : IntsAre vp ((one : Int) :: natInts (walk1Of T2 one kx).tail) := hIp
                    cases hc with | cons _ tp h => exact ⟨tp, _, rfl, h⟩
                  clear hIp
                  (try dsimp only)
                  (repeat' (first | (walk_at "mslc"; walk_at "mrng"; walk_at "mman"; walk_at "mw")))
                  with_reducible rename Fr _ _ _ _ => F13
                  with_reducible rename News _ _ _ _ => N13
                  have hvr := hIt.length
                  rw [natInts_length, List.length_tail] at hvr
                  walk_at "last subscriptTail"
                  refine tail_slice F13 N13 (PySem.IsL.isList (n := cp) (N13.get (.head _))) ?_ (by with_unfolding_all rfl) (by kmk_pure) (by omega)
                  intro tl h14 F14 N14 l14
                  clear F13 N13 F12 N12 l14
                  replace N14 : News h₀ L h14 ((tl, listOf vr.toArray 0) :: (I, oI) :: (44, tabObj ps21) :: (B ++ ((sa, (h10.get? sa).getD (tupObj [])) :: objsAt h10 ad2.all))) := fun p hp => N14 p ((List.mem_cons.mp hp).elim (fun e => e ▸ .head _) (fun h => .tail _ (.tail _ h)))
                  refine srcT_ints (E := fun _ _ => False) (xs := (walk1Of T2 one kx).tail) (news := (tl, listOf vr.toArray 0) :: (I, oI) :: (44, tabObj ps21) :: (B ++ ((sa, (h10.get? sa).getD (tupObj [])) :: objsAt h10 ad2.all))) (fun done _ zs news => IntsAre zs (natInts (done.filter (notAN T2))) ∧ news = (tl, listOf vr.toArray 0) :: (I, oI) :: (44, tabObj ps21) :: (B ++ ((sa, (h10.get? sa).getD (tupObj [])) :: objsAt h10 ad2.all))) hA.hd F14 N14 (fun p hp => hp) (.head _) hIt (by rw [List.length_tail]; omega) ⟨.nil, rfl⟩ ?_ ?_
                  · rintro done y rest zs news t I' oI' C oC D m₂ h tk E' hx ⟨hS, rfl⟩ hC9 hm9 F8 N8 off ne
                    have hyl : y < T2.length := walk1_lt hW.wf (hW.mem one hone') hkx y (List.mem_of_mem_tail (by rw [hx]; simp))
                    have hRy := row_get hyl
                    clear F14 N14
                    (try dsimp only)
                    (repeat' (first | (walk_at "mslc"; walk_at "mrng"; walk_at "mman"; walk_at "mw")))
                    (refine' Reads1.use (kind_S T2 ad2 y _ _ hRy) ?F9 ?N9 ?X9 ?T9 ?A9 ?p9 ?_; (case F9 => with_reducible assumption); (case N9 => with_reducible assumption); (case X9 => with_reducible assumption); (case T9 => with_reducible assumption); (case A9 => (walk_at "mA")); (case p9 => (walk_at "mT"))); intro v9 h9 tk9 F9 N9 e9 p9; obtain ⟨tk9, rfl⟩ := p9; (try dsimp only)
                    (try dsimp only)
                    (repeat' (first | (walk_at "mslc"; walk_at "mrng"; walk_at "mman"; walk_at "mw")))
                    · with_reducible rename (List.any _ _ = true) => hk9
                      with_reducible rename Fr _ _ _ _ => F9
                      with_reducible rename News _ _ _ _ => N9
                      have hna : notAN T2 y = false := by rw [← notAN_any, hk9]; rfl
                      refine LCg.CompEnd.intro F9 N9 _ (fun p hp => .tail _ hp) off (.inr ⟨_, .head _, rfl, _, rfl⟩) ⟨?_, rfl⟩
                      rw [filter_snoc, if_neg (by rw [hna]; simp), List.append_nil]
                      exact hS
                    · with_reducible rename (List.any _ _ = false) => hk9
                      with_reducible rename Fr _ _ _ _ => F9
                      with_reducible rename News _ _ _ _ => N9
                      have hna : notAN T2 y = true := by rw [← notAN_any, hk9]; rfl
                      refine LCg.CompEnd.intro F9 N9 _ (fun p hp => .tail _ hp) off (.inr ⟨_, .head _, rfl, _, rfl⟩) ⟨?_, rfl⟩
                      rw [filter_snoc, if_pos hna]
                      exact ints_snoc hS
                  · rintro g zs news ⟨hS, rfl⟩
                    rw [plain_tail hW.wf (hW.mem one hone') hkx] at hS
                    clear F14 N14
                    intro D h20 tk20 F20 N20 off20
                    clear off20
                    (try dsimp only); (try k_fold)
                    (repeat' (first | (walk_at "mslc"; walk_at "mrng"; walk_at "mman"; walk_at "mw")))
                    (refine' Reads1.useNew (beneath_S T2 ad2 one _ kx _ hR hkx (by omega)) ?F9 ?N9 ?X9 ?T9 ?A9 ?p9 ?_; (case F9 => with_reducible assumption); (case N9 => with_reducible assumption); (case X9 => with_reducible assumption); (case T9 => with_reducible assumption); (case A9 => (walk_at "mA")); (case p9 => (walk_at "mT"))); intro bw o9 h9 tk9 F9 N9 ne9 e9 p9; obtain ⟨vb, cb, rfl, hIb⟩ := p9; (try dsimp only)
                    (try dsimp only); (try k_fold)
                    (repeat' (first | (walk_at "mslc"; walk_at "mrng"; walk_at "mman"; walk_at "mw")))
                    with_reducible rename News _ _ _ _ => N21
                    refine ne_same N21 (.head _) (.tail _ (.head _)) hIb hS hA ?_
                    (try dsimp only); (try k_fold)
                    (repeat' (first | (walk_at "mslc"; walk_at "mrng"; walk_at "mman"; walk_at "mw")))
                    (refine' Reads1.use (string_value_S T2 ad2 one _ kx _ hR hkx (by omega) (wf_vals hW.wf)) ?F9 ?N9 ?X9 ?T9 ?A9 ?p9 ?_; (case F9 => with_reducible assumption); (case N9 => with_reducible assumption); (case X9 => with_reducible assumption); (case T9 => with_reducible assumption); (case A9 => (walk_at "mA")); (case p9 => (walk_at "mT"))); intro v9 h9 tk9 F9 N9 e9 p9; obtain ⟨ts, rfl⟩ := p9; (try dsimp only)
                    rw [str_eq hW.wf hkx hpar']
                    (try dsimp only); (try k_fold)
                    (repeat' (first | (walk_at "mslc"; walk_at "mrng"; walk_at "mman"; walk_at "mw")))
                    (refine' Reads1.use (law_texts_S T2 ad2 (wf_vals hW.wf) T2.length one _ kx _ hR hkx hdx (by omega)) ?F9 ?N9 ?X9 ?T9 ?A9 ?p9 ?_; (case F9 => with_reducible assumption); (case N9 => with_reducible assumption); (case X9 => with_reducible assumption); (case T9 => with_reducible assumption); (case A9 => (walk_at "mA")); (case p9 => (walk_at "mT"))); intro v9 h9 tk9 F9 N9 e9 p9; obtain ⟨ts2, rfl⟩ := p9; (try dsimp only)
                    (try dsimp only); (try k_fold)
                    (repeat' (first | (walk_at "mslc"; walk_at "mrng"; walk_at "mman"; walk_at "mw")))
                    · rename_i hq
                      simp at hq
                    · exact .mk rfl F9 rfl rfl rfl (cb_drop N9 (List.forall_mem_cons.mpr ⟨by k_mem, List.forall_mem_cons.mpr ⟨by k_mem, fun p hp => by k_mem⟩⟩)) ((docH_now hD10 (cb_drop N9 (fun p hp => .tail _ (.tail _ (.tail _ (.tail _ (.tail _ (List.mem_append_right _ hp)))))))).1)
                · with_reducible rename Fr _ _ _ _ => F12
                  with_reducible rename News _ _ _ _ => N12
                  with_reducible rename (List.any _ _ = false) => hpar
                  replace N12 : News h₀ L _ ((I, oI) :: (44, tabObj ps21) :: (B ++ ((sa, (h10.get? sa).getD (tupObj [])) :: objsAt h10 ad2.all))) := fun p hp => N12 p (.tail _ hp)
                  have hpar' : isPar (rowOf T2 one).kind = false := hpar
                  obtain ⟨kx, hkx, hdx⟩ := forest_of hW.wf (hW.mem one hone')
                  have hkn := leaf_nil hW.wf (hW.mem one hone') hkx hpar'
                  subst hkn
                  clear hpar
                  (refine' Reads1.use (string_value_S T2 ad2 one _ .nil _ hR hkx (by simp [Fo.size]) (wf_vals hW.wf)) ?F9 ?N9 ?X9 ?T9 ?A9 ?p9 ?_; (case F9 => with_reducible assumption); (case N9 => with_reducible assumption); (case X9 => with_reducible assumption); (case T9 => with_reducible assumption); (case A9 => (walk_at "mA")); (case p9 => (walk_at "mT"))); intro v9 h9 tk9 F9 N9 e9 p9; obtain ⟨ts, rfl⟩ := p9; (try dsimp only)
                  rw [show strVal T2 (rowOf T2 one) .nil = (rowOf T2 one).value by unfold strVal; rw [hpar']; rfl]
                  (try dsimp only); (try k_fold)
                  (repeat' (first | (walk_at "mslc"; walk_at "mrng"; walk_at "mman"; walk_at "mw")))
                  (refine' Reads1.use (value_S T2 ad2 one _ _ hR) ?F9 ?N9 ?X9 ?T9 ?A9 ?p9 ?_; (case F9 => with_reducible assumption); (case N9 => with_reducible assumption); (case X9 => with_reducible assumption); (case T9 => with_reducible assumption); (case A9 => (walk_at "mA")); (case p9 => (walk_at "mT"))); intro v9 h9 tk9 F9 N9 e9 p9; obtain ⟨ts2, rfl⟩ := p9; (try dsimp only)
                  (try dsimp only); (try k_fold)
                  (repeat' (first | (walk_at "mslc"; walk_at "mrng"; walk_at "mman"; walk_at "mw")))
                  · rename_i hq
                    simp at hq
                  · (refine' Reads1.useNew (beneath_S T2 ad2 one _ .nil _ hR hkx (by simp [Fo.size])) ?F9 ?N9 ?X9 ?T9 ?A9 ?p9 ?_; (case F9 => with_reducible assumption); (case N9 => with_reducible assumption); (case X9 => with_reducible assumption); (case T9 => with_reducible assumption); (case A9 => (walk_at "mA")); (case p9 => (walk_at "mT"))); intro bw o9 h9 tk9 F9 N9 ne9 e9 p9; obtain ⟨vb, cb, rfl, hIb⟩ := p9; (try dsimp only)
                    (try dsimp only); (try k_fold)
                    (repeat' (first | (walk_at "mslc"; walk_at "mrng"; walk_at "mman"; walk_at "mw")))
                    with_reducible rename News _ _ _ _ => N21
                    refine ne_same (ys := []) N21 (.tail _ (.head _)) (.head _) (show IntsAre vb (natInts []) from hIb) .nil hA ?_
                    (try dsimp only); (try k_fold)
                    (repeat' (first | (walk_at "mslc"; walk_at "mrng"; walk_at "mman"; walk_at "mw")))
                    with_reducible rename Fr _ _ _ _ => F9
                    exact .mk rfl F9 rfl rfl rfl (cb_drop N21 (List.forall_mem_cons.mpr ⟨by k_mem, List.forall_mem_cons.mpr ⟨by k_mem, fun p hp => by k_mem⟩⟩)) ((docH_now hD10 (cb_drop N21 (fun p hp => .tail _ (.tail _ (.tail _ (.tail _ (List.mem_append_right _ hp))))))).1)
              · rintro f s' ⟨rfl, h12, tk12, m12, rfl, F12, g1, g2, g3, N12, hD12⟩
                have F13 := fr_look [(Str.ofString "one", .int (one : Nat) t1), (Str.ofString "walks", .ref wa), (Str.ofString "roots", .ref ra)] F12 (List.forall_mem_cons.mpr ⟨by first | rfl | assumption, List.forall_mem_cons.mpr ⟨by first | rfl | assumption, List.forall_mem_cons.mpr ⟨by first | rfl | assumption, List.forall_mem_nil _⟩⟩⟩)
                clear F12 F11 N10 hT10 hD10
                have hT12 := hD12.tree
                replace N12 : News h₀ L h12 ((I, oI) :: (44, tabObj ps21) :: (B ++ ((sa, (h12.get? sa).getD (tupObj [])) :: objsAt h12 ad2.all))) := news_app (news := ((I, oI) :: (44, tabObj ps21) :: B)) N12 (docH_led hD12 hoff8)
                have hR := row_get (hW.mem one hone')
                (try dsimp only)
                (try k_fold)
                (repeat' (first | (walk_at "mifs"; walk_at "mslc"; walk_at "mrng"; walk_at "mman"; walk_at "mw")))
                with_reducible rename Fr _ _ _ _ => F13
                refine wpAny_mono (Q := TurnSt h₀ L ((I, oI) :: (44, tabObj ps21) :: B) sa wa ra T2 ad2 one t1 s1) ?_ ?_ (fun _ _ e => e)
                · (try dsimp only); (try k_fold)
                  (repeat' (first | (walk_at "mslc"; walk_at "mrng"; walk_at "mman"; walk_at "mw")))
                  (refine' Reads1.use (kind_S T2 ad2 one _ _ hR) ?F9 ?N9 ?X9 ?T9 ?A9 ?p9 ?_; (case F9 => with_reducible assumption); (case N9 => with_reducible assumption); (case X9 => with_reducible assumption); (case T9 => with_reducible assumption); (case A9 => (walk_at "mA")); (case p9 => (walk_at "mT"))); intro v9 h9 tk9 F9 N9 e9 p9; obtain ⟨tk9, rfl⟩ := p9; (try dsimp only)
                  (try dsimp only); (try k_fold)
                  (repeat' (first | (walk_at "mslc"; walk_at "mrng"; walk_at "mman"; walk_at "mw")))
                  · (refine' useNewV (scope_N T2 ad2 one lo _ huo hlo (wf_nss hW.wf)) ?F9 ?N9 ?X9 ?T9 ?A9 ?p9 ?_; (case F9 => with_reducible assumption); (case N9 => with_reducible assumption); (case X9 => with_reducible assumption); (case T9 => with_reducible assumption); (case A9 => (walk_at "mA")); (case p9 => (walk_at "mT"))); intro fs o9 h9 tk9 F9 N9 ne9 e9 ⟨ka, hda, hfa, hsa⟩; (try dsimp only)
                    (try dsimp only); (try k_fold)
                    (repeat' (first | (walk_at "mslc"; walk_at "mrng"; walk_at "mman"; walk_at "mw")))
                    (refine' useNewV (lscope_N T2 ad2 one lo _ huo hlo (wf_nss hW.wf)) ?F9 ?N9 ?X9 ?T9 ?A9 ?p9 ?_; (case F9 => with_reducible assumption); (case N9 => with_reducible assumption); (case X9 => with_reducible assumption); (case T9 => with_reducible assumption); (case A9 => (walk_at "mA")); (case p9 => (walk_at "mT"))); intro fl o9 h9 tk9 F9 N9 ne9 e9 ⟨kb, hdb, hfb, hsb⟩; (try dsimp only)
                    (try dsimp only); (try k_fold)
                    (repeat' (first | (walk_at "mslc"; walk_at "mrng"; walk_at "mman"; walk_at "mw")))
                    refine ne_scopes N9 (.tail _ (.head _)) (.head _) hda hdb hfa hfb (hsa _ rfl) (hsb _ rfl) hA ?_
                    (try dsimp only); (try k_fold)
                    (repeat' (first | (walk_at "mslc"; walk_at "mrng"; walk_at "mman"; walk_at "mw")))
                    exact .mk rfl F9 rfl rfl rfl (cb_drop N9 (List.forall_mem_cons.mpr ⟨by k_mem, List.forall_mem_cons.mpr ⟨by k_mem, fun p hp => by k_mem⟩⟩)) ((docH_now hD12 (cb_drop N9 (fun p hp => .tail _ (.tail _ (.tail _ (.tail _ (List.mem_append_right _ hp))))))).1)
                  · exact .mk rfl F9 rfl rfl rfl (cb_drop N9 (List.forall_mem_cons.mpr ⟨by k_mem, List.forall_mem_cons.mpr ⟨by k_mem, fun p hp => by k_mem⟩⟩)) ((docH_now hD12 (cb_drop N9 (fun p hp => .tail _ (.tail _ (List.mem_append_right _ hp))))).1)
                · rintro f s' ⟨rfl, h14, tk14, m14, rfl, F14, g1, g2, g3, N14, hD14⟩
                  (try dsimp only)
                  (try k_fold)
                  (repeat' (first | (walk_at "mslc"; walk_at "mrng"; walk_at "mman"; walk_at "mw")))
                  exact law_turn F14 g1 g2 N14 hD14 hoff8 hIn hIb
        · rintro m₁ news₁ h₃ tk₃ ⟨m1, m2, g, hDg, rfl⟩ F3 N3
          clear F22 N21 F23 N23 hD21 hD23 hR23 k23
          (try dsimp only); (try k_fold)
          (repeat' (first | (walk_at "mslc"; walk_at "mrng"; walk_at "mman"; walk_at "mw")))
          (try dsimp only)
          exact ⟨.inl ⟨.bool true, .bool true, [], rfl, fun _ => rfl, .bool true, by with_unfolding_all rfl, fun _ => ⟨List.nodup_nil, fun _ h => by cases h⟩⟩, F3.keep, rfl, hg⟩)
end
end
end
end Mine
set_option maxRecDepth 100000 in
set_option maxHeartbeats 8000000 in
theorem PySem.Challenge.cw_nu0062_01_holds : PySem.Challenge.rw_nu0062_01.Holds :=
  Mine.law_try
