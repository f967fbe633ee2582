import PyProof.Rows.All
import Wide.All
import OpenK.AllK
import Wide.FinOn
import PySem.Challenge.RW_xm0863_01
set_option Elab.async false
set_option linter.unusedVariables false
set_option linter.unusedSimpArgs false
set_option maxRecDepth 100000
set_option compiler.extract_closed false
set_option genSizeOf false
set_option genInjectivity false
set_option genCtorIdx false
set_option synthInstance.maxHeartbeats 400000
set_option synthInstance.maxSize 2000
set_option maxHeartbeats 8000000

section
open PySem.W.S
name_quick tw2711585505577850959 for findZ by findZ_eq
name_quick tw8620020772036689432 for findZ by findZ_eq
name_quick tw11487541028326302738 for findZ by findZ_eq
name_quick tw12835720964997663042 for findZ by findZ_eq
name_quick tw13987355940573415152 for findZ by findZ_eq
name_quick tw6004533443673955352 for findZ by findZ_eq
name_quick tw17517737089405305841 for findZ by findZ_eq
name_quick tw9674257727999782656 for findZ by findZ_eq
name_quick tw7009043117176579089 for findZ by findZ_eq
name_quick tw219737044198020058 for findZ by findZ_eq
name_quick tw9787396351842916947 for findZ by findZ_eq
name_quick tw17827458813498177553 for findZ by findZ_eq
name_quick tw43969757491396457 for findZ by findZ_eq
name_quick tw1291980286583624508 for findZ by findZ_eq
name_quick tw2718901123391026995 for findZ by findZ_eq
name_quick tw1258717718454355964 for findZ by findZ_eq
name_quick tw15560500314895047343 for findZ by findZ_eq
name_quick tw282004115355043989 for findZ by findZ_eq
name_quick tw4636218855388986860 for findZ by findZ_eq
name_quick tw17244072584429378644 for findZ by findZ_eq
name_quick tw17804436615005485693 for findZ by findZ_eq
name_quick tw10379131730601215995 for findZ by findZ_eq
name_quick tw5758256569797452207 for findZ by findZ_eq
name_quick tw3093977132361051618 for findZ by findZ_eq
name_quick tw4172830789200971933 for findZ by findZ_eq
name_quick tw11045092711201947657 for findZ by findZ_eq
name_quick tw7275051467321613617 for findZ by findZ_eq
name_quick tw17846936440860909165 for findZ by findZ_eq
name_quick tw973662469405803806 for findZ by findZ_eq
name_quick tw10528696920762540405 for findZ by findZ_eq
name_quick tw12233582284571471492 for findZ by findZ_eq
name_quick tw17352973434858128600 for findZ by findZ_eq
name_quick tw6135381517318000843 for findZ by findZ_eq
name_quick tw3619232141914619222 for findZ by findZ_eq
name_quick tw10015664371746657536 for findZ by findZ_eq
name_quick tw1829445100760108279 for findZ by findZ_eq
name_quick tw1184552218554016812 for findZ by findZ_eq
name_quick tw9376109419431680627 for findZ by findZ_eq
name_quick tw189603312586018693 for findZ by findZ_eq
name_quick tw2736616831223182526 for findZ by findZ_eq
name_quick tw757081541053455785 for findZ by findZ_eq
name_quick tw16413264400604254196 for findZ by findZ_eq
name_quick tw11306939235166856333 for findZ by findZ_eq
name_quick tw4011157648589011858 for findZ by findZ_eq
name_quick tw13180171748994924942 for findZ by findZ_eq
name_quick tw12268644228514654432 for findZ by findZ_eq
name_quick tw13526986893379352335 for findZ by findZ_eq
name_quick tw460243522976405022 for findZ by findZ_eq
name_quick tw4407734736301137906 for findZ by findZ_eq
name_quick tw4434333111790514575 for findZ by findZ_eq
name_quick tw13721567128424951087 for findZ by findZ_eq
name_quick tw5978237884098788730 for findZ by findZ_eq
name_quick tw9787463984185863102 for findZ by findZ_eq
name_quick tw6144853644547557980 for findZ by findZ_eq
name_quick tw18350330562280901221 for findZ by findZ_eq
name_quick tw10010936943081839664 for findZ by findZ_eq
name_quick tw3315324234476444515 for findZ by findZ_eq
name_quick tw18273839248471157720 for findZ by findZ_eq
name_quick tw12821735335276811757 for findZ by findZ_eq
name_quick tw7619357645376055252 for findZ by findZ_eq
name_quick tw14896874001708588922 for findZ by findZ_eq
name_quick tw151948405760981731 for findZ by findZ_eq
name_quick tw9759809726879904816 for findZ by findZ_eq
name_quick tw7035115661146626270 for findZ by findZ_eq
name_quick tw607167704815816724 for findZ by findZ_eq
name_quick tw14311459727803291754 for findZ by findZ_eq
name_quick tw13607416678640721797 for findZ by findZ_eq
name_quick tw11277716924127702174 for findZ by findZ_eq
name_quick tw13215998728584607739 for findZ by findZ_eq
name_quick tw16741492637210864865 for findZ by findZ_eq
name_quick tw9285146279643344392 for findZ by findZ_eq
name_quick tw4278798014809849964 for findZ by findZ_eq
name_quick tw17954736447514056666 for findZ by findZ_eq
name_quick tw10308316962582663543 for findZ by findZ_eq
name_quick tw11130039905162102590 for findZ by findZ_eq
name_quick tw18101931140130867144 for findZ by findZ_eq
name_quick tw2193789692954389824 for findZ by findZ_eq
name_quick tw10073347824450446311 for findZ by findZ_eq
name_quick tw7585139358526817783 for findZ by findZ_eq
name_quick tw15168306246750427876 for findZ by findZ_eq
name_quick tw1617757218408452269 for findZ by findZ_eq
name_quick tw15560853006256673968 for findZ by findZ_eq
name_quick tw951843321253372498 for findZ by findZ_eq
name_quick tw12647630874787467225 for findZ by findZ_eq
name_quick tw14386061602966655976 for findZ by findZ_eq
name_quick tw3891137856419664920 for findZ by findZ_eq
name_quick tw17101871299007795629 for findZ by findZ_eq
name_quick tw13915792640404377917 for findZ by findZ_eq
name_quick tw13789449189825218787 for findZ by findZ_eq
name_quick tw16643379632663270332 for findZ by findZ_eq
name_quick tw16966814322356759819 for findZ by findZ_eq
name_quick tw4658958612460137192 for findZ by findZ_eq
name_quick tw8708707556590381134 for findZ by findZ_eq
name_quick tw17964007177503468958 for findZ by findZ_eq
name_quick tw16413963553889246368 for findZ by findZ_eq
name_quick tw6587116730350146372 for findZ by findZ_eq
name_quick tw16935789422729920345 for findZ by findZ_eq
name_quick tw3355348695024010778 for findZ by findZ_eq
name_quick tw16494616584097029746 for findZ by findZ_eq
name_quick tw17888162413812561239 for findZ by findZ_eq
name_quick tw14537914154153760125 for findZ by findZ_eq
name_quick tw5882768191206486792 for findZ by findZ_eq
name_quick tw4275521005467322725 for findZ by findZ_eq
name_quick tw14108194823987119177 for findZ by findZ_eq
name_quick tw3577408171920636059 for findZ by findZ_eq
name_quick tw912392155897948271 for findZ by findZ_eq
name_quick tw17164873540382356111 for findZ by findZ_eq
name_quick tw17071476683966804577 for findZ by findZ_eq
name_quick tw17344680358763864322 for findZ by findZ_eq
name_quick tw18260038339965228139 for findZ by findZ_eq
name_quick tw8902219603052485911 for findZ by findZ_eq
name_quick tw16180582048198870337 for findZ by findZ_eq
name_quick tw1320183511955256522 for findZ by findZ_eq
name_quick tw15806122291839087668 for findZ by findZ_eq
name_quick tw9979284746773624096 for findZ by findZ_eq
name_quick tw14126943448341045398 for findZ by findZ_eq
name_quick tw6589095468515690095 for findZ by findZ_eq
name_quick tw11270796479367742343 for findZ by findZ_eq
name_quick tw11529799822564653932 for findZ by findZ_eq
name_quick tw3820604794100220378 for findZ by findZ_eq
name_quick tw10948738476641704880 for findZ by findZ_eq
name_quick tw17975652961387846372 for findZ by findZ_eq
name_quick tw8032284361305108907 for findZ by findZ_eq
name_quick tw15278061642289888581 for findZ by findZ_eq
name_quick tw3698559305507148144 for findZ by findZ_eq
name_quick tw4527066259768149269 for findZ by findZ_eq
name_quick tw17274371674624000324 for findZ by findZ_eq
name_quick tw8224813933742928703 for findZ by findZ_eq
name_quick tw1055568401681811165 for findZ by findZ_eq
name_quick tw14333388528381170442 for findZ by findZ_eq
name_quick tw9868827292493398776 for findZ by findZ_eq
name_quick tw12825359941727978080 for findZ by findZ_eq
name_quick tw17899373020297197333 for findZ by findZ_eq
name_quick tw10045867985992453528 for findZ by findZ_eq
name_quick tw3362959441861295915 for findZ by findZ_eq
name_quick tw1370275717833778536 for findZ by findZ_eq
name_quick tw8579058602437062094 for findZ by findZ_eq
name_quick tw12393455550290869266 for findZ by findZ_eq
name_quick tw5068434257544371817 for findZ by findZ_eq
name_quick tw16406328271908756883 for findZ by findZ_eq
name_quick tw17111948838632640456 for findZ by findZ_eq
name_quick tw4319705520415482375 for findZ by findZ_eq
name_quick tw16817318245366136608 for findZ by findZ_eq
name_quick tw16548257151911338427 for findZ by findZ_eq
name_quick tw17552769576498331613 for findZ by findZ_eq
name_quick tw13580328829973926956 for findZ by findZ_eq
name_quick tw9539479885485572040 for findZ by findZ_eq
name_quick tw16947794391021106201 for findZ by findZ_eq
name_quick tw6711915476519705758 for findZ by findZ_eq
name_quick tw4978915544186085027 for findZ by findZ_eq
name_quick tw15900120412870309639 for findZ by findZ_eq
name_quick tw10007627690174824804 for findZ by findZ_eq
name_quick tw4292500188555128830 for findZ by findZ_eq
name_quick tw1749818173716722547 for findZ by findZ_eq
name_quick tw5823794197072137003 for findZ by findZ_eq
name_quick tw16531745337717519161 for findZ by findZ_eq
name_quick tw14884601019740666482 for findZ by findZ_eq
name_quick tw7496433998918960881 for findZ by findZ_eq
name_quick tw17069979004554194336 for findZ by findZ_eq
name_quick tw15902184279288820625 for findZ by findZ_eq
name_quick tw11894967455096443194 for findZ by findZ_eq
name_quick tw11740888236361828772 for findZ by findZ_eq
name_quick tw13016732220969518872 for findZ by findZ_eq
name_quick tw1139862187096482527 for findZ by findZ_eq
name_quick tw5076957145309523181 for findZ by findZ_eq
name_quick tw17394056326795013819 for findZ by findZ_eq
name_quick tw15263041282635125899 for findZ by findZ_eq
name_quick tw14778209649434054790 for findZ by findZ_eq
name_quick tw12659028871203227004 for findZ by findZ_eq
name_quick tw2905824091091238844 for findZ by findZ_eq
name_quick tw136631920214876835 for findZ by findZ_eq
name_quick tw2378363196638174374 for findZ by findZ_eq
name_quick tw5721027456603625697 for findZ by findZ_eq
name_quick tw13317431791736044220 for findZ by findZ_eq
name_quick tw12290603225136948437 for findZ by findZ_eq
name_quick tw389472881494512206 for findZ by findZ_eq
name_quick tw6122645084068987007 for findZ by findZ_eq
name_quick tw15562837088269578035 for findZ by findZ_eq
name_quick tw1537898542681612871 for findZ by findZ_eq
name_quick tw14714103240675001986 for findZ by findZ_eq
name_quick tw1041845030581493396 for findZ by findZ_eq
name_quick tw8860024209350480642 for findZ by findZ_eq
name_quick tw8719427161674164953 for findZ by findZ_eq
name_quick tw7581816359482902497 for findZ by findZ_eq
name_quick tw9594665118957945026 for findZ by findZ_eq
name_quick tw9676229304581654039 for findZ by findZ_eq
name_quick tw7397068168572129948 for findZ by findZ_eq
name_quick tw17476080006546285661 for findZ by findZ_eq
name_quick tw15423634916342008072 for findZ by findZ_eq
name_quick tw9501820088010722379 for findZ by findZ_eq
name_quick tw3282434896037501709 for findZ by findZ_eq
name_quick tw2627984346626558326 for findZ by findZ_eq
name_quick tw16752143609539240740 for findZ by findZ_eq
name_quick tw183835017167291270 for findZ by findZ_eq
name_quick tw7198390536060210744 for findZ by findZ_eq
name_quick tw4075660801711882420 for findZ by findZ_eq
name_quick tw5565278806992967083 for findZ by findZ_eq
name_quick tw11519604305632133818 for findZ by findZ_eq
name_quick tw15823609455315575823 for findZ by findZ_eq
name_quick tw12898947447245864913 for findZ by findZ_eq
name_quick tw6426273055680023932 for findZ by findZ_eq
name_quick tw16350708796919097252 for findZ by findZ_eq
name_quick tw2460228577881660442 for findZ by findZ_eq
name_quick tw724751600484774222 for findZ by findZ_eq
name_quick tw16487347958798203451 for findZ by findZ_eq
name_quick tw2283851925072248500 for findZ by findZ_eq
name_quick tw17954471519018878134 for findZ by findZ_eq
name_quick tw4302124980754421698 for findZ by findZ_eq
name_quick tw11518781747449614426 for findZ by findZ_eq
name_quick tw11588390666370768167 for findZ by findZ_eq
name_quick tw6179359751918216688 for findZ by findZ_eq
name_quick tw6789855027759293466 for findZ by findZ_eq
name_quick tw9458956999447867950 for findZ by findZ_eq
name_quick tw5529568453561195837 for findZ by findZ_eq
name_quick tw12734952128020822468 for findZ by findZ_eq
name_quick tw12182807814244774211 for findZ by findZ_eq
name_quick tw7094674258960923220 for findZ by findZ_eq
name_quick tw13314330512976039754 for findZ by findZ_eq
name_quick tw17803129079492736432 for findZ by findZ_eq
name_quick tw8796240567053077481 for findZ by findZ_eq
name_quick tw4966893808263662355 for findZ by findZ_eq
name_quick tw10919533547850550483 for findZ by findZ_eq
name_quick tw1574873078441994576 for findZ by findZ_eq
name_quick tw11817470609975844035 for findZ by findZ_eq
name_quick tw8450942572126056277 for findZ by findZ_eq
name_quick tw17000155066101142889 for findZ by findZ_eq
name_quick tw2354101950205528012 for findZ by findZ_eq
name_quick tw16439824349840649037 for findZ by findZ_eq
name_quick tw2334299552400917057 for findZ by findZ_eq
name_quick tw16339471991904476338 for findZ by findZ_eq
name_quick tw17280976486791472633 for findZ by findZ_eq
name_quick tw14323765505736481980 for findZ by findZ_eq
name_quick tw2834515844689135028 for findZ by findZ_eq
name_quick tw16593013826814733010 for findZ by findZ_eq
name_quick tw15490439104401381959 for findZ by findZ_eq
name_quick tw16643706677886111943 for findZ by findZ_eq
name_quick tw16374537267813192141 for findZ by findZ_eq
name_quick tw10887116778572429059 for findZ by findZ_eq
name_quick tw10323183001455561277 for findZ by findZ_eq
name_quick tw3424931102881643321 for findZ by findZ_eq
name_quick tw9219426015542480343 for findZ by findZ_eq
name_quick tw5349121933718820234 for findZ by findZ_eq
name_quick tw9136488742655976645 for findZ by findZ_eq
name_quick tw15919542637913265678 for findZ by findZ_eq
name_quick tw15980859228951719591 for findZ by findZ_eq
name_quick tw2670528217467546775 for findZ by findZ_eq
name_quick tw11825729669827539873 for findZ by findZ_eq
name_quick tw2478078296215019888 for findZ by findZ_eq
name_quick tw11964429278604863157 for findZ by findZ_eq
name_quick tw2611137233208623240 for findZ by findZ_eq
name_quick tw856264945809894966 for findZ by findZ_eq
name_quick tw8206430501311747189 for findZ by findZ_eq
name_quick tw1402947280878808549 for findZ by findZ_eq
name_quick tw16296994325663420285 for findZ by findZ_eq
name_quick tw3976722010076183465 for findZ by findZ_eq
name_quick tw6909570525239066004 for findZ by findZ_eq
name_quick tw6722154040420286063 for findZ by findZ_eq
name_quick tw17988542015724977305 for findZ by findZ_eq
name_quick tw9504726810853072989 for findZ by findZ_eq
name_quick tw16846860572762119324 for findZ by findZ_eq
name_quick tw18410474027866654770 for findZ by findZ_eq
name_quick tw17672482021469178181 for findZ by findZ_eq
name_quick tw3972328310683599613 for findZ by findZ_eq
name_quick tw5396446701170858492 for findZ by findZ_eq
name_quick tw6679490504615227074 for findZ by findZ_eq
name_quick tw4936483359421988267 for findZ by findZ_eq
name_quick tw3327986453032591115 for findZ by findZ_eq
name_quick tw9763268239775435451 for findZ by findZ_eq
name_quick tw14168537005229113720 for findZ by findZ_eq
name_quick tw5697894365363955025 for findZ by findZ_eq
name_quick tw8725556140233255809 for findZ by findZ_eq
name_quick tw7392212959928792091 for findZ by findZ_eq
name_quick tw8693227569615203950 for findZ by findZ_eq
name_quick tw3442601649717412197 for findZ by findZ_eq
name_quick tw2902314222560053993 for findZ by findZ_eq
name_quick tw8753696776887207221 for findZ by findZ_eq
name_quick tw932993149863042379 for findZ by findZ_eq
name_quick tw6580340599500149305 for findZ by findZ_eq
name_quick tw3264259588550801142 for findZ by findZ_eq
name_quick tw11462045893675790159 for findZ by findZ_eq
name_quick tw18263319221461684349 for findZ by findZ_eq
name_quick tw6380047634161181297 for findZ by findZ_eq
name_quick tw14073706353221006472 for findZ by findZ_eq
name_quick tw13678640442995254988 for findZ by findZ_eq
name_quick tw16417370028952169744 for findZ by findZ_eq
name_quick tw11543547407058413889 for findZ by findZ_eq
name_quick tw13925586954763233925 for findZ by findZ_eq
name_quick tw1886563365779066154 for findZ by findZ_eq
name_quick tw11161088081135249708 for findZ by findZ_eq
name_quick tw1702518465993881591 for findZ by findZ_eq
name_quick tw6250672158363226905 for findZ by findZ_eq
name_quick tw4549333791460862111 for findZ by findZ_eq
name_quick tw6019396324639902685 for findZ by findZ_eq
name_quick tw2401699919119007470 for findZ by findZ_eq
name_quick tw5862295025349918931 for findZ by findZ_eq
name_quick tw6363645014702824404 for findZ by findZ_eq
name_quick tw8075568018651887793 for findZ by findZ_eq
name_quick tw17001327861769816259 for findZ by findZ_eq
name_quick tw9537544019596298400 for findZ by findZ_eq
name_quick tw14433975572909055671 for findZ by findZ_eq
name_quick tw5268983451555188008 for findZ by findZ_eq
name_quick tw14971970265804392439 for findZ by findZ_eq
name_quick tw14214133299417103183 for findZ by findZ_eq
name_quick tw4090926877573551719 for findZ by findZ_eq
name_quick tw15542691292777871779 for findZ by findZ_eq
name_quick tw12813236842856870187 for findZ by findZ_eq
name_quick tw13335737130258781183 for findZ by findZ_eq
name_quick tw16942194440817826258 for findZ by findZ_eq
name_quick tw1156252341971683116 for findZ by findZ_eq
name_quick tw12832477231654346042 for findZ by findZ_eq
name_quick tw7140130562030077042 for findZ by findZ_eq
name_quick tw9151444980202551346 for findZ by findZ_eq
name_quick tw313226197891681235 for findZ by findZ_eq
name_quick tw9438727661952587866 for findZ by findZ_eq
name_quick tw16018607276475445134 for findZ by findZ_eq
name_quick tw15034313371233782410 for findZ by findZ_eq
name_quick tw3152983702415266003 for findZ by findZ_eq
name_quick tw3436264866546951355 for findZ by findZ_eq
name_quick tw10942035263794033107 for findZ by findZ_eq
name_quick tw1706496860858754268 for findZ by findZ_eq
name_quick tw11108263761283441063 for findZ by findZ_eq
name_quick tw3129706707597842070 for findZ by findZ_eq
name_quick tw9396933662098498411 for findZ by findZ_eq
name_quick tw13254397897704925713 for findZ by findZ_eq
name_quick tw7269565832213808900 for findZ by findZ_eq
name_quick tw11625766737575182897 for findZ by findZ_eq
name_quick tw6550987210724342151 for findZ by findZ_eq
name_quick tw900395245841561262 for findZ by findZ_eq
name_quick tw6434265647005701932 for findZ by findZ_eq
name_quick tw13034914539432193964 for findZ by findZ_eq
name_quick tw11445135464325071761 for findZ by findZ_eq
name_quick tw4921902886906138986 for findZ by findZ_eq
name_quick tw716658179208862652 for findZ by findZ_eq
name_quick tw11788150170368784547 for findZ by findZ_eq
name_quick tw14305139224198610471 for findZ by findZ_eq
name_quick tw8098380416015320538 for findZ by findZ_eq
name_quick tw11790162104776037713 for findZ by findZ_eq
name_quick tw16874561944515371726 for findZ by findZ_eq
name_quick tw7401281599722004195 for findZ by findZ_eq
name_quick tw11310463157757771331 for findZ by findZ_eq
name_quick tw4525517667737911620 for findZ by findZ_eq
name_quick tw15195428891847259777 for findZ by findZ_eq
name_quick tw17026713947507217902 for findZ by findZ_eq
name_quick tw12224578244612797663 for findZ by findZ_eq
name_quick tw12095823642532355627 for findZ by findZ_eq
name_quick tw16697116713213952808 for findZ by findZ_eq
name_quick tw6148621092414575339 for findZ by findZ_eq
name_quick tw878741703135273975 for findZ by findZ_eq
name_quick tw5248340912204065574 for findZ by findZ_eq
name_quick tw1962928258387122110 for findZ by findZ_eq
name_quick tw16241802466949684156 for findZ by findZ_eq
name_quick tw10996506086634736982 for findZ by findZ_eq
name_quick tw6059929106960060952 for findZ by findZ_eq
name_quick tw1333364371103165705 for findZ by findZ_eq
name_quick tw1204117194425446250 for findZ by findZ_eq
name_quick tw9673203406766833760 for findZ by findZ_eq
name_quick tw6662432510661729299 for findZ by findZ_eq
name_quick tw12237943961548833269 for findZ by findZ_eq
name_quick tw2922074901204462755 for findZ by findZ_eq
name_quick tw13642483538084851733 for findZ by findZ_eq
name_quick tw15663404670287596823 for findZ by findZ_eq
name_quick tw8603108125212654177 for findZ by findZ_eq
name_quick tw11994158751524154303 for findZ by findZ_eq
name_quick tw9691624938235723451 for findZ by findZ_eq
name_quick tw17300597898927385350 for findZ by findZ_eq
name_quick tw13497088773603432520 for findZ by findZ_eq
name_quick tw8658103293671471659 for findZ by findZ_eq
name_quick tw4039474712603431140 for findZ by findZ_eq
name_quick tw13615603153576403970 for findZ by findZ_eq
name_quick tw11863081143760314161 for findZ by findZ_eq
name_quick tw11838138170533393997 for findZ by findZ_eq
name_quick tw7483462131439158144 for findZ by findZ_eq
name_quick tw10205541121877940668 for findZ by findZ_eq
name_quick tw7299303143086499733 for findZ by findZ_eq
name_quick tw16432479971616331241 for findZ by findZ_eq
name_quick tw7365555872484859036 for findZ by findZ_eq
name_quick tw12809422525583811893 for findZ by findZ_eq
name_quick tw16916688483869632129 for findZ by findZ_eq
name_quick tw10042830170769951172 for findZ by findZ_eq
name_quick tw8703263022893421829 for findZ by findZ_eq
name_quick tw8017206721242287953 for findZ by findZ_eq
name_quick tw3325841961599345399 for findZ by findZ_eq
name_quick tw6434138532213402376 for findZ by findZ_eq
name_quick tw9236875199018929784 for findZ by findZ_eq
name_quick tw1620339239838986703 for findZ by findZ_eq
name_quick tw14553827428707814869 for findZ by findZ_eq
name_quick tw3039592710220408265 for findZ by findZ_eq
name_quick tw4575980220486274672 for findZ by findZ_eq
name_quick tw2660918139993853925 for findZ by findZ_eq
name_quick tw558745408833754511 for findZ by findZ_eq
name_quick tw7581352650102555174 for findZ by findZ_eq
name_quick tw10833955939284561965 for findZ by findZ_eq
name_quick tw17532718790514356516 for findZ by findZ_eq
name_quick tw9948023125614773506 for findZ by findZ_eq
name_quick tw4933834842325187142 for findZ by findZ_eq
name_quick tw10938465397075749097 for findZ by findZ_eq
name_quick tw3118938333895590913 for findZ by findZ_eq
name_quick tw11682084944484805031 for findZ by findZ_eq
name_quick tw13200701876752130231 for findZ by findZ_eq
name_quick tw13129546313719669721 for findZ by findZ_eq
name_quick tw17730428716208468724 for findZ by findZ_eq
name_quick tw1414301608579184545 for findZ by findZ_eq
name_quick tw14223099787259518943 for findZ by findZ_eq
name_quick tw17018628822417861297 for findZ by findZ_eq
name_quick tw15475462885187679331 for findZ by findZ_eq
name_quick tw3636048126100218174 for findZ by findZ_eq
name_quick tw5706481520468235054 for findZ by findZ_eq
name_quick tw8595292554425487202 for findZ by findZ_eq
name_quick tw12177639751122801600 for findZ by findZ_eq
name_quick tw5925582254088234700 for findZ by findZ_eq
name_quick tw11796506867022685745 for findZ by findZ_eq
name_quick tw1345238157095803546 for findZ by findZ_eq
name_quick tw16979880578912567463 for findZ by findZ_eq
name_quick tw13236226663087606529 for findZ by findZ_eq
name_quick tw12981051755390344553 for findZ by findZ_eq
name_quick tw17057272898397164401 for findZ by findZ_eq
name_quick tw325292655437039998 for findZ by findZ_eq
name_quick tw7783732958741208154 for findZ by findZ_eq
name_quick tw12392613427281201732 for findZ by findZ_eq
name_quick tw8555734327229750603 for findZ by findZ_eq
name_quick tw392140993173905013 for findZ by findZ_eq
name_quick tw7504490480230193789 for findZ by findZ_eq
name_quick tw18056578402003937789 for findZ by findZ_eq
name_quick tw10352308551163946355 for findZ by findZ_eq
name_quick tw7286323032743288035 for findZ by findZ_eq
name_quick tw10029231156530900338 for findZ by findZ_eq
name_quick tw8119918657739134586 for findZ by findZ_eq
name_quick tw8488268690174267210 for findZ by findZ_eq
name_quick tw18416463498863911781 for findZ by findZ_eq
name_quick tw11636919720809706868 for findZ by findZ_eq
name_quick tw17183712847048597117 for findZ by findZ_eq
name_quick tw11892598404827812706 for findZ by findZ_eq
name_quick tw8047484207015712433 for findZ by findZ_eq
name_quick tw383695940523520267 for findZ by findZ_eq
name_quick tw8537084889766193716 for findZ by findZ_eq
name_quick tw17497748084772794779 for findZ by findZ_eq
name_quick tw4071324889030633612 for findZ by findZ_eq
name_quick tw12172078356533094185 for findZ by findZ_eq
name_quick tw12726346659333912481 for findZ by findZ_eq
name_quick tw3131671291697673992 for findZ by findZ_eq
name_quick tw662354867322794072 for findZ by findZ_eq
name_quick tw15376083050721069600 for findZ by findZ_eq
name_quick tw15112985482279097393 for findZ by findZ_eq
name_quick tw7670514497116975361 for findZ by findZ_eq
name_quick tw3734928757376591546 for findZ by findZ_eq
name_quick tw12635297910168745909 for findZ by findZ_eq
name_quick tw18340240734955500558 for findZ by findZ_eq
name_quick tw2958062672499776758 for findZ by findZ_eq
name_quick tw13809362725867891129 for findZ by findZ_eq
name_quick tw13871001218405608335 for findZ by findZ_eq
name_quick tw1763209079605825380 for findZ by findZ_eq
name_quick tw8459811325457737761 for findZ by findZ_eq
name_quick tw16437185098154296904 for findZ by findZ_eq
name_quick tw13559156169165276386 for findZ by findZ_eq
name_quick tw6967401301877209104 for findZ by findZ_eq
name_quick tw7131626054202286345 for findZ by findZ_eq
name_quick tw3386650904741475044 for findZ by findZ_eq
name_quick tw2951486255847992690 for findZ by findZ_eq
name_quick tw12850107946570832962 for findZ by findZ_eq
name_quick tw4558998842232669794 for findZ by findZ_eq
name_quick tw7892128664451923741 for findZ by findZ_eq
name_quick tw2664551874359636763 for findZ by findZ_eq
name_quick tw347637069881736656 for findZ by findZ_eq
name_quick tw7469732015759309437 for findZ by findZ_eq
name_quick tw1638017585896720355 for findZ by findZ_eq
name_quick tw8400853705098224536 for findZ by findZ_eq
name_quick tw4681523508651956083 for findZ by findZ_eq
name_quick tw13252181687094117063 for findZ by findZ_eq
name_quick tw18220123701641295943 for findZ by findZ_eq
name_quick tw10487160056961263569 for findZ by findZ_eq
name_quick tw9951705424602377420 for findZ by findZ_eq
name_quick tw9145423190860714643 for findZ by findZ_eq
name_quick tw17765544955259793912 for findZ by findZ_eq
name_quick tw4552823106982906706 for findZ by findZ_eq
name_quick tw11957962974430299695 for findZ by findZ_eq
name_quick tw2039238271031011813 for findZ by findZ_eq
name_quick tw13759679279233594173 for findZ by findZ_eq
name_quick tw2405244031406744862 for findZ by findZ_eq
name_quick tw10706342367453228570 for findZ by findZ_eq
name_quick tw6448080314894763839 for findZ by findZ_eq
name_quick tw2447775223705975068 for findZ by findZ_eq
name_quick tw1869930749605803152 for findZ by findZ_eq
name_quick tw11495947367809530248 for findZ by findZ_eq
name_quick tw4679858250743294509 for findZ by findZ_eq
name_quick tw15542503528162795033 for findZ by findZ_eq
name_quick tw12329403913580668285 for findZ by findZ_eq
name_quick tw13145125596335152023 for findZ by findZ_eq
name_quick tw16415621359673392558 for findZ by findZ_eq
name_quick tw11707433790658880453 for findZ by findZ_eq
name_quick tw441327347791068078 for findZ by findZ_eq
name_quick tw9908251947323293946 for findZ by findZ_eq
name_quick tw5032809538720368765 for findZ by findZ_eq
name_quick tw18345786424863182364 for findZ by findZ_eq
name_quick tw505943868828395459 for findZ by findZ_eq
name_quick tw9407582987413476825 for findZ by findZ_eq
name_quick tw6792406925840432001 for findZ by findZ_eq
name_quick tw10670733350059645105 for findZ by findZ_eq
name_quick tw7276740287692124622 for findZ by findZ_eq
name_quick tw17520869792638436183 for findZ by findZ_eq
name_quick tw9626621113073979434 for findZ by findZ_eq
name_quick tw1092655722715705105 for findZ by findZ_eq
name_quick tw15766043655864335149 for findZ by findZ_eq
name_quick tw14420389602138693270 for findZ by findZ_eq
name_quick tw14224011070414065920 for findZ by findZ_eq
name_quick tw6213141578215901147 for findZ by findZ_eq
name_quick tw14210447440969649564 for findZ by findZ_eq
name_quick tw5701610774189311196 for findZ by findZ_eq
name_quick tw6817277305950994716 for findZ by findZ_eq
name_quick tw16349216596472256690 for findZ by findZ_eq
name_quick tw17774800907425398282 for findZ by findZ_eq
name_quick tw17913803186225011329 for findZ by findZ_eq
name_quick tw6090905460779295987 for findZ by findZ_eq
name_quick tw11420187438672877268 for findZ by findZ_eq
name_quick tw15133509641930783078 for findZ by findZ_eq
name_quick tw5111356299099525756 for findZ by findZ_eq
name_quick tw14112274594779413971 for findZ by findZ_eq
name_quick tw11939915149646268982 for findZ by findZ_eq
name_quick tw8642067239939848140 for findZ by findZ_eq
name_quick tw1302811641713473902 for findZ by findZ_eq
name_quick tw11013792430000457035 for findZ by findZ_eq
name_quick tw5832503352825792928 for findZ by findZ_eq
name_quick tw5518745428033880147 for findZ by findZ_eq
name_quick tw4748654258956052638 for findZ by findZ_eq
name_quick tw7745614565497352828 for findZ by findZ_eq
name_quick tw2364824441312284604 for findZ by findZ_eq
name_quick tw6683783046931543321 for findZ by findZ_eq
name_quick tw8727135674562949291 for findZ by findZ_eq
name_quick tw4797165386629745026 for findZ by findZ_eq
name_quick tw16189536214700107852 for findZ by findZ_eq
name_quick tw12022618010286034681 for findZ by findZ_eq
name_quick tw2599325451414397859 for findZ by findZ_eq
name_quick tw17434858337260393937 for findZ by findZ_eq
name_quick tw10057510723706494237 for findZ by findZ_eq
name_quick tw14979626087600564940 for findZ by findZ_eq
name_quick tw470574548607681690 for findZ by findZ_eq
name_quick tw11452132507678324671 for findZ by findZ_eq
name_quick tw18123110421147349612 for findZ by findZ_eq
name_quick tw2408619945344806742 for findZ by findZ_eq
name_quick tw3560238982266916124 for findZ by findZ_eq
name_quick tw8424611434330503625 for findZ by findZ_eq
name_quick tw6125931036764729998 for findZ by findZ_eq
name_quick tw13900631225919944168 for findZ by findZ_eq
name_quick tw16223305294053301992 for findZ by findZ_eq
name_quick tw14023627001141898710 for findZ by findZ_eq
name_quick tw9862997608875712007 for findZ by findZ_eq
name_quick tw8376441433122354887 for findZ by findZ_eq
name_quick tw4980102563643897964 for findZ by findZ_eq
name_quick tw18350638575300117064 for findZ by findZ_eq
name_quick tw16942504070071679284 for findZ by findZ_eq
name_quick tw12635813782599140982 for findZ by findZ_eq
name_quick tw4224760802259116069 for findZ by findZ_eq
name_quick tw5976474108018559520 for findZ by findZ_eq
name_quick tw11729385059970357855 for findZ by findZ_eq
name_quick tw11711732703192999913 for findZ by findZ_eq
name_quick tw13981391230805400906 for findZ by findZ_eq
name_quick tw930746551332336609 for findZ by findZ_eq
name_quick tw10227693086864044499 for findZ by findZ_eq
name_quick tw14326252917377295143 for findZ by findZ_eq
name_quick tw7325371227089235964 for findZ by findZ_eq
name_quick tw6654550962395885724 for findZ by findZ_eq
name_quick tw12880600461018141596 for findZ by findZ_eq
name_quick tw6245536207120538393 for findZ by findZ_eq
name_quick tw16414604833108395602 for findZ by findZ_eq
name_quick tw3470799630455053000 for findZ by findZ_eq
name_quick tw16349804527192203551 for findZ by findZ_eq
name_quick tw15450981722951097364 for findZ by findZ_eq
name_quick tw17015423121036801654 for findZ by findZ_eq
name_quick tw7788680626742099145 for findZ by findZ_eq
name_quick tw5200128776193632040 for findZ by findZ_eq
name_quick tw12450158673883907302 for findZ by findZ_eq
name_quick tw1377046205977697930 for findZ by findZ_eq
name_quick tw9564595351457756722 for findZ by findZ_eq
name_quick tw7323676302269181137 for findZ by findZ_eq
name_quick tw9305782018832362445 for findZ by findZ_eq
name_quick tw387338674003428930 for findZ by findZ_eq
name_quick tw17000458434675057986 for findZ by findZ_eq
name_quick tw5135500740108067664 for findZ by findZ_eq
name_quick tw8686526503394165142 for findZ by findZ_eq
name_quick tw2719445374943340272 for findZ by findZ_eq
name_quick tw3880421473898291048 for findZ by findZ_eq
name_quick tw16792545251062261874 for findZ by findZ_eq
name_quick tw17024950926791866790 for findZ by findZ_eq
name_quick tw15480198773659482676 for findZ by findZ_eq
name_quick tw16049961110935095269 for findZ by findZ_eq
name_quick tw7650934615059315214 for findZ by findZ_eq
name_quick tw1772237422875290029 for findZ by findZ_eq
name_quick tw7802139600951554647 for findZ by findZ_eq
name_quick tw10500077913531017323 for findZ by findZ_eq
name_quick tw9529234661008812162 for findZ by findZ_eq
name_quick tw18211773271919218964 for findZ by findZ_eq
name_quick tw9467589175468403638 for findZ by findZ_eq
name_quick tw10508251915553800215 for findZ by findZ_eq
name_quick tw17341736924252097559 for findZ by findZ_eq
name_quick tw10470071008263537045 for findZ by findZ_eq
name_quick tw117213463901210413 for findZ by findZ_eq
name_quick tw15742981410569661332 for findZ by findZ_eq
name_quick tw4775785305629353868 for findZ by findZ_eq
name_quick tw10317580896714288900 for findZ by findZ_eq
name_quick tw14530364306720264245 for findZ by findZ_eq
name_quick tw16655555454665732581 for findZ by findZ_eq
name_quick tw8989982439271903415 for findZ by findZ_eq
name_quick tw3764465048917985505 for findZ by findZ_eq
name_quick tw17279654841073493023 for findZ by findZ_eq
name_quick tw9413167413068371254 for findZ by findZ_eq
name_quick tw9800571698397750058 for findZ by findZ_eq
name_quick tw10424941004445345732 for findZ by findZ_eq
end

namespace Mine
section
open PySem PySem.W PyProof.Rows
open_top hd for PySem.Challenge.rw_xm0863_01
end
end Mine
namespace Mine.Internal
open PySem PySem.W PyProof.Rows PySem.Calls
namespace Ar
open Lean.Omega
noncomputable abbrev Vec:=List Int
noncomputable abbrev DN:=List (List Vec)
noncomputable abbrev Pr:=Nat×Int
noncomputable abbrev PV:=Vec×Vec
inductive AE where
 | k (n:Nat)
 | v (z:Bool) (i:Nat)
 | o (c:Nat) (x y:AE)
inductive AF where
 | r (c:Nat) (x y:AE)
 | b (c:Nat) (f g:AF)
noncomputable def nth {α:Type} (d:α) (l:List α):Nat→α:=@List.rec α (fun _=>Nat→α) (fun _=>d) (fun a _ ih i=>@Nat.rec (fun _=>α) a (fun i _=>ih i) i) l
theorem band {a b:Bool} (h:(a && b)=true):a=true∧b=true:=by cases a with | false=>cases h | true=>exact ⟨rfl,h⟩
noncomputable def dt (v w:Vec):Int:=IntList.dot v (1::w)
noncomputable def vadd (a:Vec):Vec→Vec:=@List.rec Int (fun _=>Vec→Vec) (fun b=>b) (fun x a ih b=>@List.rec Int (fun _=>Vec) (x::a) (fun y b _=>(x+y)::ih b) b) a
noncomputable def vsc (c:Int) (a:Vec):Vec:=a.map fun x=>c*x
noncomputable def vng (a:Vec):Vec:=vsc (-1) a
noncomputable def vsub (a b:Vec):Vec:=vadd a (vng b)
noncomputable def pred (a:Vec):Vec:=vadd a [-1]
noncomputable def vun (i:Nat):Vec:=@Nat.rec (fun _=>Vec) [1] (fun _ l=>0::l) i
theorem dot_add (a b w:Vec):IntList.dot (vadd a b) w=IntList.dot a w+IntList.dot b w:=by
 induction a generalizing b w with
 | nil=>exact (Int.zero_add _).symm
 | cons x a ih =>
  cases b with
  | nil=>exact (Int.add_zero _).symm
  | cons y b =>
   cases w with
   | nil=>rfl
   | cons z w =>
    show (x+y)*z+IntList.dot (vadd a b) w=x*z+IntList.dot a w+(y*z+IntList.dot b w)
    rw [ih,Int.add_mul,Int.add_assoc,Int.add_left_comm (y*z),← Int.add_assoc]
theorem dot_un (i:Nat) (w:Vec):IntList.dot (vun i) w=nth 0 w i:=by
 induction i generalizing w with
 | zero =>
  cases w with
  | nil=>rfl
  | cons x w=>exact (Int.add_zero _).trans (Int.one_mul x)
 | succ i ih =>
  cases w with
  | nil=>rfl
  | cons x w=>exact (congrArg (·+IntList.dot (vun i) w) (Int.zero_mul x)).trans ((Int.zero_add _).trans (ih w))
section
variable {a b w:Vec}
theorem dt_add:dt (vadd a b) w=dt a w+dt b w:=dot_add a b _
theorem dt_sc {c:Int}:dt (vsc c a) w=c*dt a w:=IntList.dot_smul_left a _ c
theorem dt_vng:dt (vng a) w=- dt a w:=dt_sc.trans (Int.neg_one_mul _)
theorem dt_sub:dt (vsub a b) w=dt a w-dt b w:=dt_add.trans (congrArg (dt a w+·) dt_vng)
theorem dt_one {c:Int}:dt [c] w=c:=(Int.add_zero _).trans (Int.mul_one c)
theorem dt_pred:dt (pred a) w=dt a w-1:=dt_add
theorem vle (h:dt a w≤dt b w):0≤dt (vsub b a) w:=dt_sub▸Int.sub_nonneg_of_le h
theorem vpred (h:0 < dt a w):0≤dt (pred a) w:=dt_pred▸Int.sub_nonneg_of_le h
theorem vlt (h:dt a w < dt b w):0≤dt (pred (vsub b a)) w:=vpred (dt_sub▸Int.sub_pos_of_lt h)
theorem vneg (h:dt a w < 0):0≤dt (pred (vng a)) w:=vpred (dt_vng▸Int.neg_pos_of_neg h)
theorem veq (h:dt a w=dt b w):0≤dt (vsub b a) w:=vle (Int.le_of_eq h)
theorem vn0 (h:dt a w=0):0≤dt (vng a) w:=Int.le_of_eq (dt_vng.trans (congrArg Neg.neg h)).symm
noncomputable def cst (a:Vec):Option Int:=@List.rec Int (fun _=>Option Int) (some 0) (fun c l _=>@List.rec Int (fun _=>Option Int) (some c) (fun _ _ _=>none) l) a
theorem dt_cst {c:Int} (h:cst a=some c):dt a w=c:=by
 cases a with
 | nil=>exact Option.some.inj h
 | cons c' l =>
  cases l with
  | nil=>exact dt_one.trans (Option.some.inj h)
  | cons _ _=>cases h
end
section
variable {w:Vec}
noncomputable def Holds1 (w:Vec) (cj:List Vec):Prop:=∀ v∈cj,0≤dt v w
noncomputable def Some1 (w:Vec) (l:DN):Prop:=∃ cj∈l,Holds1 w cj
noncomputable def All1 (w:Vec) (l:List DN):Prop:=∀ cl∈l,Some1 w cl
theorem h1n:Holds1 w []:=fun _ h=>absurd h List.not_mem_nil
theorem h1c {v:Vec} {l:List Vec} (h:0≤dt v w) (g:Holds1 w l):Holds1 w (v::l):=fun u hu=>(List.mem_cons.mp hu).elim (fun e=>e▸h) (g u)
theorem h1a {a b:List Vec} (h:Holds1 w a) (g:Holds1 w b):Holds1 w (a++b):=fun u hu=>(List.mem_append.mp hu).elim (h u) (g u)
theorem a1n:All1 w []:=fun _ h=>absurd h List.not_mem_nil
theorem a1c {v:DN} {l:List DN} (h:Some1 w v) (g:All1 w l):All1 w (v::l):=fun u hu=>(List.mem_cons.mp hu).elim (fun e=>e▸h) (g u)
theorem s1h {v:List Vec} {l:DN} (h:Holds1 w v):Some1 w (v::l):=⟨v,.head _,h⟩
theorem s1l {a b:DN} (h:Some1 w a):Some1 w (a++b):=by obtain ⟨c,m,g⟩:=h; exact ⟨c,List.mem_append_left _ m,g⟩
theorem s1r {a b:DN} (h:Some1 w b):Some1 w (a++b):=by obtain ⟨c,m,g⟩:=h; exact ⟨c,List.mem_append_right _ m,g⟩
theorem s11 {v:Vec} (h:0≤dt v w):Some1 w [[v]]:=s1h (h1c h h1n)
theorem s12 {v:Vec} {c:List Vec} (h:0≤dt v w):Some1 w [c,[v]]:=s1r (a:=[c]) (s11 h)
noncomputable def prod (A B:DN):DN:=A.flatMap fun a=>B.map fun b=>a++b
theorem s1p {a b:DN} (h:Some1 w a) (h':Some1 w b):Some1 w (prod a b):=by
 obtain ⟨c,m,g⟩:=h; obtain ⟨c',m',g'⟩:=h'
 exact ⟨c++c',List.mem_flatMap.mpr ⟨c,m,List.mem_map.mpr ⟨c',m',rfl⟩⟩,h1a g g'⟩
end
noncomputable def zneg (a:Int):Bool:=@Int.rec (fun _=>Bool) (fun _=>false) (fun _=>true) a
noncomputable def zpos (a:Int):Bool:=@Int.rec (fun _=>Bool) (fun n=>Nat.ble 1 n) (fun _=>false) a
noncomputable def zz (a:Int):Bool:=@Int.rec (fun _=>Bool) (fun n=>Nat.beq n 0) (fun _=>false) a
theorem zneg_lt {a:Int} (h:zneg a=true):a < 0:=by
 cases a with
 | ofNat n=>cases h
 | negSucc n=>exact Int.negSucc_lt_zero n
theorem zpos_lt {a:Int} (h:zpos a=true):0 < a:=by
 cases a with
 | ofNat n=>exact Int.natCast_pos.mpr (Nat.le_of_ble_eq_true h)
 | negSucc n=>cases h
theorem zz_eq {a:Int} (h:zz a=true):a=0:=by
 cases a with
 | ofNat n=>exact congrArg Int.ofNat (Nat.eq_of_beq_eq_true h)
 | negSucc n=>cases h
noncomputable def mulV (A B K:Vec):Vec:=(cst A).elim ((cst B).elim K fun c=>vsc c A) fun c=>vsc c B
noncomputable def modV (A B Q K:Vec):Vec:=(cst B).elim K fun c=>vsub A (vsc c Q)
noncomputable def powV (A B K:Vec):Vec:=(cst A).elim K fun a=>(cst B).elim K fun b=>[a ^ b.toNat]
noncomputable def cl2 (D K:Vec):DN:=[[D,vsub K D,vsub D K],[pred (vng D),K,vng K]]
noncomputable def cl3 (D K:Vec):DN:=[[D,vsub K D,vsub D K],[pred (vng D),vadd K D,vng (vadd K D)]]
noncomputable def divC (Y X K:Vec):List DN:=(cst Y).elim [] fun c=>bif zpos c then [[[vsub X (vsc c K),vsub (vadd (vsc c K) [c-1]) X]]] else []
section
variable {w A B K Q:Vec} {a b k q m:Int}
theorem mulV_ok (hA:dt A w=a) (hB:dt B w=b) (hK:dt K w=a*b):dt (mulV A B K) w=a*b:=by
 unfold mulV
 cases hc:cst A with
 | some c=>exact dt_sc.trans (by rw [hB,← hA,dt_cst hc])
 | none =>
  cases hd:cst B with
  | some c=>exact dt_sc.trans (by rw [hA,← hB,dt_cst hd,Int.mul_comm])
  | none=>exact hK
theorem modV_ok (hA:dt A w=a) (hB:dt B w=b) (hQ:dt Q w=q) (hK:dt K w=m) (e:m=a-b*q):dt (modV A B Q K) w=m:=by
 unfold modV
 cases hc:cst B with
 | some c=>exact dt_sub.trans (by rw [dt_sc,hA,hQ,e,← hB,dt_cst hc])
 | none=>exact hK
theorem powV_ok {n:Nat} (hA:dt A w=a) (hB:dt B w=n) (hK:dt K w=a ^ n):dt (powV A B K) w=a ^ n:=by
 unfold powV
 cases hc:cst A with
 | some c =>
  cases hd:cst B with
  | some d=>exact dt_one.trans (by rw [← hA,dt_cst hc,show d=n from (dt_cst hd).symm.trans hB]; rfl)
  | none=>exact hK
 | none=>exact hK
theorem cl_ok (hD:dt A w=a) (hK:dt K w=k) (h:0≤a) (e:k=a):Holds1 w [A,vsub K A,vsub A K] :=
 h1c (hD▸h) (h1c (veq (hD.trans (e.symm.trans hK.symm))) (h1c (veq (hK.trans (e.trans hD.symm))) h1n))
theorem cl2_ok (hD:dt A w=a) (hK:dt K w=k) (h:0≤a∧k=a∨a < 0∧k=0):Some1 w (cl2 A K):=by
 rcases h with ⟨h,e⟩ | ⟨h,e⟩
 ·exact s1h (cl_ok hD hK h e)
 ·exact s1r (a:=[_]) (s1h (h1c (vneg (hD▸h)) (h1c (Int.le_of_eq (hK.trans e).symm) (h1c (vn0 (hK.trans e)) h1n))))
theorem cl3_ok (hD:dt A w=a) (hK:dt K w=k) (h:0≤a∧k=a∨a < 0∧k=-a):Some1 w (cl3 A K):=by
 rcases h with ⟨h,e⟩ | ⟨h,e⟩
 ·exact s1h (cl_ok hD hK h e)
 ·have e0:dt (vadd K A) w=0:=by rw [dt_add,hK,hD,e,Int.add_left_neg]
  exact s1r (a:=[_]) (s1h (h1c (vneg (hD▸h)) (h1c (Int.le_of_eq e0.symm) (h1c (vn0 e0) h1n))))
theorem divC_ok (hA:dt A w=a) (hB:dt B w=b) (hK:dt K w=a / b):All1 w (divC B A K):=by
 unfold divC
 cases hc:cst B with
 | none=>exact a1n
 | some c =>
  show All1 w (bif zpos c then _ else _)
  cases hz:zpos c with
  | false=>exact a1n
  | true =>
   have hp:=zpos_lt hz
   obtain rfl:b=c:=hB.symm.trans (dt_cst hc)
   refine a1c (s1h (h1c (vle ?_) (h1c (vle ?_) h1n))) a1n
   ·rw [dt_sc,hA,hK]; exact Int.mul_ediv_self_le (Int.ne_of_gt hp)
   ·rw [dt_add,dt_sc,dt_one,hA,hK,← Int.add_sub_assoc]; exact Int.le_sub_one_of_lt (Int.lt_mul_ediv_self_add hp)
end
noncomputable abbrev OP:=Nat×(Pr→Pr→Pr)×(PV→PV→Vec→Vec→PV)×(PV→PV→Vec→List DN)
noncomputable def zcO:OP:=(0,fun x _=>(0,(x.1:Int)),fun X _ _ _=>([],X.1),fun _ _ _=>[])
noncomputable def ops:List OP:=[
 (0,fun x y=>(x.1+y.1,0),fun X Y _ _=>(vadd X.1 Y.1,[]),fun _ _ _=>[]),
 (1,fun x y=>(x.1-y.1,0),fun _ _ K _=>(K,[]),fun X Y K=>[cl2 (vsub X.1 Y.1) K]),
 (1,fun x y=>(x.1*y.1,0),fun X Y K _=>(mulV X.1 Y.1 K,[]),fun _ _ K=>[[[K]]]),
 (1,fun x y=>(x.1 / y.1,0),fun _ _ K _=>(K,[]),fun X Y K=>[[K]]::divC Y.1 X.1 K),
 (2,fun x y=>(x.1%y.1,0),fun X Y K Q=>(modV X.1 Y.1 Q K,[]),fun _ _ K=>[[[K]]]),
 (1,fun x y=>(x.1 ^ y.1,0),fun X Y K _=>(powV X.1 Y.1 K,[]),fun _ _ K=>[[[K]]]),
 (1,fun x _=>(x.2.toNat,0),fun _ _ K _=>(K,[]),fun X _ K=>[cl2 X.2 K]),
 (1,fun x _=>(x.2.natAbs,0),fun _ _ K _=>(K,[]),fun X _ K=>[cl3 X.2 K]),
 (0,fun x y=>(0,x.2+y.2),fun X Y _ _=>([],vadd X.2 Y.2),fun _ _ _=>[]),
 (0,fun x y=>(0,x.2-y.2),fun X Y _ _=>([],vsub X.2 Y.2),fun _ _ _=>[]),
 (1,fun x y=>(0,x.2*y.2),fun X Y K _=>([],mulV X.2 Y.2 K),fun _ _ _=>[]),
 (1,fun x y=>(0,x.2 / y.2),fun _ _ K _=>([],K),fun X Y K=>divC Y.2 X.2 K),
 (2,fun x y=>(0,x.2%y.2),fun X Y K Q=>([],modV X.2 Y.2 Q K),fun _ _ _=>[]),
 (1,fun x y=>(0,x.2 ^ y.1),fun X Y K _=>([],powV X.2 Y.1 K),fun _ _ _=>[]),
 (0,fun x _=>(0,-x.2),fun X _ _ _=>([],vng X.2),fun _ _ _=>[])]
noncomputable def op (c:Nat):OP:=nth zcO ops c
noncomputable def OpOk (p o:OP):Prop:=∀ (w:Vec) (X Y:PV) (x y:Pr) (K Q:Vec),dt X.1 w=x.1→dt X.2 w=x.2→dt Y.1 w=y.1→dt Y.2 w=y.2 →
 ((o.1≠0→dt K w=(o.2.1 x y).1+(o.2.1 x y).2)→(o.1=2→dt Q w=(p.2.1 x y).1+(p.2.1 x y).2)→dt (o.2.2.1 X Y K Q).1 w=(o.2.1 x y).1∧dt (o.2.2.1 X Y K Q).2 w=(o.2.1 x y).2) ∧
 (dt K w=(o.2.1 x y).1+(o.2.1 x y).2→All1 w (o.2.2.2 X Y K))
noncomputable def OpsOk (p:OP) (l:List OP):Prop:=∀ c,OpOk (nth zcO (p::l) c) (nth zcO l c)
theorem okc {p a:OP} {l:List OP} (h:OpOk p a) (g:OpsOk a l):OpsOk p (a::l):=fun c=>by
 cases c with
 | zero=>exact h
 | succ c=>exact g c
theorem okn {p:OP}:OpsOk p []:=fun c=>fun w X Y x y K Q px pz qx qz=>⟨fun _ _=>⟨rfl,px⟩,fun _=>a1n⟩
theorem add2 {a b c d:Int} (h:a=c) (g:b=d):a+b=c+d:=by rw [h,g]
theorem sub2 {a b c d:Int} (h:a=c) (g:b=d):a-b=c-d:=by rw [h,g]
theorem z0 {a b:Int} (h:a=b+0):a=b:=h.trans (Int.add_zero b)
theorem oz {a b:Int} (h:a=((0:Nat):Int)+b):a=b:=h.trans (Int.zero_add b)
theorem pos1 {w K:Vec} {n:Nat} (h:dt K w=n+0):Some1 w [[K]]:=s11 (z0 h▸Int.natCast_nonneg n)
theorem one0:(1:Nat)≠0:=Nat.one_ne_zero
theorem two0:(2:Nat)≠0:=Nat.succ_ne_zero 1
theorem ops_ok:OpsOk zcO ops:=by
 refine okc (fun w X Y x y K Q px pz qx qz=>⟨fun _ _=>⟨dt_add.trans (add2 px qx),rfl⟩,fun _=>a1n⟩) ?_
 refine okc (fun w X Y x y K Q px pz qx qz=>⟨fun k _=>⟨z0 (k one0),rfl⟩,fun k=>a1c (cl2_ok (dt_sub.trans (sub2 px qx)) (z0 k) ?_) a1n⟩) ?_
 ·exact (Nat.lt_or_ge x.1 y.1).elim (fun g=>.inr ⟨Int.sub_neg_of_lt (Int.ofNat_lt.mpr g),congrArg Nat.cast (Nat.sub_eq_zero_of_le (Nat.le_of_lt g))⟩) fun g=>.inl ⟨Int.sub_nonneg_of_le (Int.ofNat_le.mpr g),Int.ofNat_sub g⟩
 refine okc (fun w X Y x y K Q px pz qx qz=>⟨fun k _=>⟨mulV_ok px qx (z0 (k one0)),rfl⟩,fun k=>a1c (pos1 k) a1n⟩) ?_
 refine okc (fun w X Y x y K Q px pz qx qz=>⟨fun k _=>⟨z0 (k one0),rfl⟩,fun k=>a1c (pos1 k) (divC_ok px qx (z0 k))⟩) ?_
 refine okc (fun w X Y x y K Q px pz qx qz=>⟨fun k q=>⟨modV_ok px qx (z0 (q rfl)) (z0 (k two0)) (Int.emod_def x.1 y.1),rfl⟩,fun k=>a1c (pos1 k) a1n⟩) ?_
 refine okc (fun w X Y x y K Q px pz qx qz=>⟨fun k _=>⟨(powV_ok px qx ((z0 (k one0)).trans (Int.natCast_pow _ _))).trans (Int.natCast_pow _ _).symm,rfl⟩,fun k=>a1c (pos1 k) a1n⟩) ?_
 refine okc (fun w X Y x y K Q px pz qx qz=>⟨fun k _=>⟨z0 (k one0),rfl⟩,fun k=>a1c (cl2_ok pz (z0 k) ?_) a1n⟩) ?_
 ·exact (Int.lt_or_le x.2 0).elim (fun g=>.inr ⟨g,congrArg Nat.cast (Int.toNat_of_nonpos (Int.le_of_lt g))⟩) fun g=>.inl ⟨g,Int.toNat_of_nonneg g⟩
 refine okc (fun w X Y x y K Q px pz qx qz=>⟨fun k _=>⟨z0 (k one0),rfl⟩,fun k=>a1c (cl3_ok pz (z0 k) ?_) a1n⟩) ?_
 ·exact (Int.lt_or_le x.2 0).elim (fun g=>.inr ⟨g,Int.ofNat_natAbs_of_nonpos (Int.le_of_lt g)⟩) fun g=>.inl ⟨g,Int.natAbs_of_nonneg g⟩
 refine okc (fun w X Y x y K Q px pz qx qz=>⟨fun _ _=>⟨rfl,dt_add.trans (add2 pz qz)⟩,fun _=>a1n⟩) ?_
 refine okc (fun w X Y x y K Q px pz qx qz=>⟨fun _ _=>⟨rfl,dt_sub.trans (sub2 pz qz)⟩,fun _=>a1n⟩) ?_
 refine okc (fun w X Y x y K Q px pz qx qz=>⟨fun k _=>⟨rfl,mulV_ok pz qz (oz (k one0))⟩,fun _=>a1n⟩) ?_
 refine okc (fun w X Y x y K Q px pz qx qz=>⟨fun k _=>⟨rfl,oz (k one0)⟩,fun k=>divC_ok pz qz (oz k)⟩) ?_
 refine okc (fun w X Y x y K Q px pz qx qz=>⟨fun k q=>⟨rfl,modV_ok pz qz (oz (q rfl)) (oz (k two0)) (Int.emod_def _ _)⟩,fun _=>a1n⟩) ?_
 refine okc (fun w X Y x y K Q px pz qx qz=>⟨fun k _=>⟨rfl,powV_ok pz qx (oz (k one0))⟩,fun _=>a1n⟩) ?_
 exact okc (fun w X Y x y K Q px pz qx qz=>⟨fun _ _=>⟨rfl,dt_vng.trans (congrArg Neg.neg pz)⟩,fun _=>a1n⟩) okn
noncomputable def AE.eq (a:AE):AE→Bool:=@AE.rec (fun _=>AE→Bool)
 (fun n b=>@AE.rec (fun _=>Bool) (fun n'=>Nat.beq n n') (fun _ _=>false) (fun _ _ _ _ _=>false) b)
 (fun z i b=>@AE.rec (fun _=>Bool) (fun _=>false) (fun z' i'=>(z == z') && Nat.beq i i') (fun _ _ _ _ _=>false) b)
 (fun c _ _ X Y b=>@AE.rec (fun _=>Bool) (fun _=>false) (fun _ _=>false) (fun c' x y _ _=>Nat.beq c c' && (X x && Y y)) b) a
theorem AE.eq_iff {a b:AE} (h:a.eq b=true):a=b:=by
 induction a generalizing b with
 | k n =>
  cases b with
  | k n'=>exact congrArg _ (Nat.eq_of_beq_eq_true h)
  | v=>cases h
  | o=>cases h
 | v z n =>
  cases b with
  | v z' n'=>rw [eq_of_beq (band h).1,Nat.eq_of_beq_eq_true (band h).2]
  | k=>cases h
  | o=>cases h
 | o c x y hx hy =>
  cases b with
  | o c' x' y'=>rw [Nat.eq_of_beq_eq_true (band h).1,hx (band (band h).2).1,hy (band (band h).2).2]
  | k=>cases h
  | v=>cases h
theorem AE.eq_rfl (a:AE):a.eq a=true:=by
 induction a with
 | k n=>exact Nat.beq_refl n
 | v z n=>exact (Bool.and_eq_true _ _).mpr ⟨beq_self_eq_true z,Nat.beq_refl n⟩
 | o c x y hx hy=>exact (Bool.and_eq_true _ _).mpr ⟨Nat.beq_refl c,(Bool.and_eq_true _ _).mpr ⟨hx,hy⟩⟩
noncomputable def ix (l:List AE) (e:AE):Nat:=@List.rec AE (fun _=>Nat) 0 (fun a _ n=>bif a.eq e then 0 else n+1) l
noncomputable def mem (l:List AE) (e:AE):Bool:=l.any fun a=>a.eq e
noncomputable def key (ks:List AE) (e:AE):Vec:=vun (ix ks e+1)
noncomputable def keys (e:AE):List AE:=@AE.rec (fun _=>List AE) (fun _=>[]) (fun z i=>[.v z i]) (fun c x y A B=>nth [.o (Nat.sub c 1) x y,.o c x y] [[],[.o c x y]] (op c).1++(A++B)) e
noncomputable def lin (ks:List AE) (e:AE):PV:=@AE.rec (fun _=>PV) (fun n=>([(n:Int)],[(n:Int)])) (fun z i=>@Bool.rec (fun _=>PV) (key ks (.v z i),[]) ([],key ks (.v z i)) z) (fun c x y X Y=>(op c).2.2.1 X Y (key ks (.o c x y)) (key ks (.o (Nat.sub c 1) x y))) e
noncomputable def fact (ks:List AE) (e:AE):List DN:=@AE.rec (fun _=>List DN) (fun _=>[]) (fun z i=>bif z then [] else [[[key ks (.v z i)]]]) (fun c x y _ _=>(op c).2.2.2 (lin ks x) (lin ks y) (key ks (.o c x y))) e
section
variable (r:List Nat) (t:List Int)
noncomputable def AE.den (e:AE):Pr:=@AE.rec (fun _=>Pr) (fun n=>(n,(n:Int))) (fun z i=>@Bool.rec (fun _=>Pr) (nth 0 r i,0) (0,nth 0 t i) z) (fun c _ _ X Y=>(op c).2.1 X Y) e
noncomputable def AE.val (e:AE):Int:=((e.den r t).1:Int)+(e.den r t).2
noncomputable def wal (ks:List AE):Vec:=ks.map (AE.val r t)
variable {r:List Nat} {t:List Int} {ks:List AE} {e x y:AE} {c:Nat}
theorem dt_key (h:mem ks e=true):dt (key ks e) (wal r t ks)=e.val r t:=by
 refine (dot_un _ _).trans ?_
 show nth 0 (wal r t ks) (ix ks e)=_
 induction ks with
 | nil=>cases h
 | cons a l ih =>
  show nth 0 (a.val r t::wal r t l) (bif a.eq e then 0 else ix l e+1)=_
  rw [mem,List.any_cons] at h
  cases c:a.eq e with
  | true=>exact congrArg (AE.val r t) (AE.eq_iff c)
  | false=>rw [c] at h; exact ih h
theorem own_k {n:Nat} {p:AE→Bool} (h:(nth [x,y] [[],[y]] n).all p=true) (hn:n≠0):p y=true:=by
 cases n with
 | zero=>exact absurd rfl hn
 | succ n =>
  cases n with
  | zero=>exact (band h).1
  | succ n=>exact (band (band h).2).1
theorem own_q {n:Nat} {p:AE→Bool} (h:(nth [x,y] [[],[y]] n).all p=true) (hn:n=2):p x=true:=by
 subst hn; exact (band h).1
theorem all_app {a b:List AE} {p:AE→Bool} (h:(a++b).all p=true):a.all p=true∧b.all p=true:=band (List.all_append▸h)
theorem lin_ok (h:(keys e).all (mem ks)=true):dt (lin ks e).1 (wal r t ks)=(e.den r t).1∧dt (lin ks e).2 (wal r t ks)=(e.den r t).2:=by
 induction e with
 | k n=>exact ⟨dt_one,dt_one⟩
 | v z i =>
  cases z with
  | false=>exact ⟨z0 (dt_key (band h).1),rfl⟩
  | true=>exact ⟨rfl,oz (dt_key (band h).1)⟩
 | o c x y hx hy =>
  have h1:=all_app h
  have h2:=all_app h1.2
  refine (ops_ok c _ _ _ _ _ _ _ (hx h2.1).1 (hx h2.1).2 (hy h2.2).1 (hy h2.2).2).1 (fun g=>dt_key (own_k h1.1 g)) fun g=>?_
  cases c with
  | zero=>cases g
  | succ c=>exact dt_key (own_q h1.1 g)
theorem fact_ok (h:(keys e).all (mem ks)=true) (hm:mem ks e=true):All1 (wal r t ks) (fact ks e):=by
 cases e with
 | k n=>exact a1n
 | v z i =>
  cases z with
  | false=>exact a1c (pos1 (dt_key hm)) a1n
  | true=>exact a1n
 | o c x y =>
  have h2:=all_app (all_app h).2
  have X:=lin_ok (r:=r) (t:=t) h2.1
  have Y:=lin_ok (r:=r) (t:=t) h2.2
  exact (ops_ok c _ _ _ _ _ _ [] X.1 X.2 Y.1 Y.2).2 (dt_key hm)
end
noncomputable def rle (X Y:Vec) (b:Bool):DN:=bif b then [[vsub Y X]] else [[pred (vsub X Y)]]
noncomputable def rlt (X Y:Vec) (b:Bool):DN:=bif b then [[pred (vsub Y X)]] else [[vsub X Y]]
noncomputable def req (X Y:Vec) (b:Bool):DN:=bif b then [[vsub Y X,vsub X Y]] else [[pred (vsub Y X)],[pred (vsub X Y)]]
noncomputable abbrev RL:=(Pr→Pr→Prop)×(PV→PV→Bool→DN)
noncomputable def rff:RL:=(fun _ _=>False,fun _ _ b=>bif b then [] else [[]])
noncomputable def rls:List RL:=[(fun x y=>x.1≤y.1,fun X Y=>rle X.1 Y.1),(fun x y=>x.1 < y.1,fun X Y=>rlt X.1 Y.1),(fun x y=>x.1=y.1,fun X Y=>req X.1 Y.1),
 (fun x y=>x.2≤y.2,fun X Y=>rle X.2 Y.2),(fun x y=>x.2 < y.2,fun X Y=>rlt X.2 Y.2),(fun x y=>x.2=y.2,fun X Y=>req X.2 Y.2)]
noncomputable abbrev BN:=(Prop→Prop→Prop)×((Bool→DN)→(Bool→DN)→Bool→DN)
noncomputable def bif3:BN:=(fun P Q=>P↔Q,fun F G b=>prod (F true) (G b)++prod (F false) (G (!b)))
noncomputable def bns:List BN:=[(fun P Q=>P→Q,fun F G b=>bif b then F false++G true else prod (F true) (G false)),
 (fun P Q=>P∧Q,fun F G b=>bif b then prod (F true) (G true) else F false++G false),
 (fun P Q=>P∨Q,fun F G b=>bif b then F true++G true else prod (F false) (G false))]
noncomputable def Dec (w:Vec) (P:Prop) (F:Bool→DN):Prop:=(P→Some1 w (F true))∧(¬ P→Some1 w (F false))
section
variable {w X Y:Vec}
theorem rle_ok:Dec w (dt X w≤dt Y w) (rle X Y):=⟨fun h=>s11 (vle h),fun h=>s11 (vlt (Int.lt_of_not_ge h))⟩
theorem rlt_ok:Dec w (dt X w < dt Y w) (rlt X Y):=⟨fun h=>s11 (vlt h),fun h=>s11 (vle (Int.le_of_not_gt h))⟩
theorem req_ok:Dec w (dt X w=dt Y w) (req X Y):=⟨fun h=>s1h (h1c (veq h) (h1c (veq h.symm) h1n)),fun h=>(Int.lt_or_gt_of_ne h).elim (fun h=>s1h (h1c (vlt h) h1n)) fun h=>s12 (vlt h)⟩
theorem Dec.of {P Q:Prop} {F:Bool→DN} (d:Dec w P F) (h:P↔Q):Dec w Q F:=⟨fun q=>d.1 (h.mpr q),fun q=>d.2 fun p=>q (h.mp p)⟩
end
noncomputable def RlOk (o:RL):Prop:=∀ (w:Vec) (X Y:PV) (x y:Pr),dt X.1 w=x.1→dt X.2 w=x.2→dt Y.1 w=y.1→dt Y.2 w=y.2→Dec w (o.1 x y) (o.2 X Y)
theorem rkc {a:RL} {l:List RL} (h:RlOk a) (g:∀ c,RlOk (nth rff l c)) (c:Nat):RlOk (nth rff (a::l) c):=by
 cases c with
 | zero=>exact h
 | succ c=>exact g c
theorem rls_ok:∀ c,RlOk (nth rff rls c):=by
 refine rkc (fun w X Y x y px pz qx qz=>rle_ok.of (by rw [px,qx]; exact Int.ofNat_le)) ?_
 refine rkc (fun w X Y x y px pz qx qz=>rlt_ok.of (by rw [px,qx]; exact Int.ofNat_lt)) ?_
 refine rkc (fun w X Y x y px pz qx qz=>req_ok.of (by rw [px,qx]; exact Int.ofNat_inj)) ?_
 refine rkc (fun w X Y x y px pz qx qz=>rle_ok.of (by rw [pz,qz])) ?_
 refine rkc (fun w X Y x y px pz qx qz=>rlt_ok.of (by rw [pz,qz])) ?_
 exact rkc (fun w X Y x y px pz qx qz=>req_ok.of (by rw [pz,qz])) fun c=>fun w X Y x y _ _ _ _=>⟨fun h=>h.elim,fun _=>s1h h1n⟩
noncomputable def BnOk (o:BN):Prop:=∀ (w:Vec) (P Q:Prop) (F G:Bool→DN),Dec w P F→Dec w Q G→Dec w (o.1 P Q) (o.2 F G)
theorem bkc {a:BN} {l:List BN} (h:BnOk a) (g:∀ c,BnOk (nth bif3 l c)) (c:Nat):BnOk (nth bif3 (a::l) c):=by
 cases c with
 | zero=>exact h
 | succ c=>exact g c
theorem bns_ok:∀ c,BnOk (nth bif3 bns c):=by
 refine bkc (fun w P Q F G d e=>(Classical.em P).elim (fun c=>⟨fun h=>s1r (e.1 (h c)),fun h=>s1p (d.1 c) (e.2 fun q=>h fun _=>q)⟩) fun c=>⟨fun _=>s1l (d.2 c),fun h=>absurd (fun p=>absurd p c) h⟩) ?_
 refine bkc (fun w P Q F G d e=>⟨fun h=>s1p (d.1 h.1) (e.1 h.2),fun h=>(Classical.em P).elim (fun c=>s1r (e.2 fun q=>h ⟨c,q⟩)) fun c=>s1l (d.2 c)⟩) ?_
 refine bkc (fun w P Q F G d e=>⟨fun h=>h.elim (fun p=>s1l (d.1 p)) fun q=>s1r (e.1 q),fun h=>s1p (d.2 fun p=>h (.inl p)) (e.2 fun q=>h (.inr q))⟩) ?_
 exact fun _=>fun w P Q F G d e=>(Classical.em P).elim (fun c=>⟨fun h=>s1l (s1p (d.1 c) (e.1 (h.mp c))),fun h=>s1l (s1p (d.1 c) (e.2 fun q=>h ⟨fun _=>q,fun _=>c⟩))⟩)
  fun c=>⟨fun h=>s1r (s1p (d.2 c) (e.2 fun q=>c (h.mpr q))),fun h=>s1r (s1p (d.2 c) (e.1 (Classical.byContradiction fun q=>h ⟨fun p=>absurd p c,fun x=>absurd x q⟩)))⟩
noncomputable def dnf (ks:List AE) (f:AF):Bool→DN:=@AF.rec (fun _=>Bool→DN) (fun c x y=>(nth rff rls c).2 (lin ks x) (lin ks y)) (fun c _ _ F G=>(nth bif3 bns c).2 F G) f
noncomputable def fkeys (f:AF):List AE:=@AF.rec (fun _=>List AE) (fun _ x y=>keys x++keys y) (fun _ _ _ F G=>F++G) f
noncomputable def AF.den (r:List Nat) (t:List Int) (f:AF):Prop:=@AF.rec (fun _=>Prop) (fun c x y=>(nth rff rls c).1 (x.den r t) (y.den r t)) (fun c _ _ F G=>(nth bif3 bns c).1 F G) f
theorem dnf_ok {r:List Nat} {t:List Int} {ks:List AE} {f:AF} (h:(fkeys f).all (mem ks)=true):Dec (wal r t ks) (f.den r t) (dnf ks f):=by
 induction f with
 | r c x y =>
  have X:=lin_ok (r:=r) (t:=t) (all_app h).1
  have Y:=lin_ok (r:=r) (t:=t) (all_app h).2
  exact rls_ok c _ _ _ _ _ X.1 X.2 Y.1 Y.2
 | b c f g hf hg=>exact bns_ok c _ _ _ _ _ (hf (all_app h).1) (hg (all_app h).2)
noncomputable def bad (v:Vec):Bool:=@List.rec Int (fun _=>Bool) false (fun k l _=>zneg k && l.all zz) v
noncomputable def tight (v:Vec):Vec:=@List.rec Int (fun _=>Vec) [] (fun k l _=>bif Nat.ble 2 (IntList.gcd l) then (k / (IntList.gcd l:Int))::IntList.sdiv l (IntList.gcd l) else k::l) v
noncomputable def comb (i:Nat) (p q:Vec):Vec:=bif zpos (nth 0 p i) && zneg (nth 0 q i) then tight (vadd (vsc (-nth 0 q i) p) (vsc (nth 0 p i) q)) else p
noncomputable def elim (i:Nat) (cs:List Vec):List Vec :=
 ((cs.filter fun v=>zpos (nth 0 v i)).flatMap fun p=>(cs.filter fun v=>zneg (nth 0 v i)).map fun q=>comb i p q)++cs.filter fun v=>zz (nth 0 v i)
noncomputable def pick (cs:List Vec) (i:Nat):Nat→Nat→Nat:=@Nat.rec (fun _=>Nat→Nat→Nat) (fun b _=>b) (fun i ih b c =>
 let p:=(cs.filter fun v=>zpos (nth 0 v (i+1))).length
 let q:=(cs.filter fun v=>zneg (nth 0 v (i+1))).length
 bif Nat.ble 1 (p+q) && Nat.blt (p*q) c then ih (i+1) (p*q) else ih b c) i
noncomputable def fm (m n:Nat):List Vec→Bool:=@Nat.rec (fun _=>List Vec→Bool) (fun cs=>cs.any bad) (fun _ ih cs=>cs.any bad || @Nat.rec (fun _=>Bool) false (fun i _=>ih (elim (i+1) cs)) (pick cs m 0 100000)) n
noncomputable def eqs (cs:List Vec):Option Vec→List Vec×List Vec:=@List.rec Vec (fun _=>Option Vec→List Vec×List Vec) (fun p=>([],p.toList))
 (fun u _ ih p=>p.elim (ih (some u)) fun v=>if u=vng v then (v::(ih none).1,(ih none).2) else ((ih (some u)).1,v::(ih (some u)).2)) cs
noncomputable def unit (l:Vec):Nat→Nat:=@List.rec Int (fun _=>Nat→Nat) (fun _=>0) (fun a _ ih i=>bif @Int.rec (fun _=>Bool) (fun n=>Nat.beq n 1) (fun n=>Nat.beq n 0) a then i else ih (i+1)) l
noncomputable def sbst (i:Nat) (e v:Vec):Vec:=bif zz (nth 0 v i) then v else vadd v (vsc (-(nth 0 v i*nth 0 e i)) e)
noncomputable def gauss (n:Nat):List Vec→List Vec→List Vec:=@Nat.rec (fun _=>List Vec→List Vec→List Vec) (fun _ cs=>cs) (fun _ ih es cs=>@List.rec Vec (fun _=>List Vec) cs (fun e es _ =>
 @Nat.rec (fun _=>List Vec) (ih es (e::vng e::cs)) (fun i _=>ih (es.map (sbst (i+1) e)) (cs.map fun v=>tight (sbst (i+1) e v))) (unit e.tail 1)) es) n
noncomputable def fin (n:Nat) (cs:List Vec):Bool:=fm n n (gauss (eqs cs none).1.length (eqs cs none).1 (eqs cs none).2)
noncomputable def refute (n:Nat) (cls:List DN):List Vec→Bool:=@List.rec DN (fun _=>List Vec→Bool) (fun cs=>fin n cs) (fun cl _ ih cs=>(bif Nat.beq cl.length 1 then false else fin n cs) || cl.all fun cj=>ih (cj++cs)) cls
noncomputable def ins (l:List AE) (e:AE):List AE:=bif mem l e then l else e::l
noncomputable def valid (f:AF):Bool :=
 let fk:=fkeys f
 let ks:=fk.foldl ins []
 let fs:=ks.flatMap (fact ks)
 (fk.all (mem ks) && ks.all fun e=>(keys e).all (mem ks)) && (dnf ks f false).all (refute ks.length (fs.filter (fun c=>Nat.beq c.length 1)++fs.filter (fun c=>!Nat.beq c.length 1)))
section
variable {w:Vec}
theorem bad_dt {v:Vec} (h:bad v=true):dt v w < 0:=by
 cases v with
 | nil=>cases h
 | cons k l =>
  have e:IntList.dot l w=0:=IntList.dot_of_left_zero fun x hx=>zz_eq (List.all_eq_true.mp (band h).2 x hx)
  have e2:dt (k::l) w=k:=(congrArg (k*1+·) e).trans (dt_one (w:=w))
  rw [e2]; exact zneg_lt (band h).1
theorem tight_ok {v:Vec} (h:0≤dt v w):0≤dt (tight v) w:=by
 cases v with
 | nil=>exact h
 | cons k l =>
  show 0≤dt (bif Nat.ble 2 (IntList.gcd l) then _ else _) w
  cases Nat.ble 2 (IntList.gcd l) with
  | false=>exact h
  | true =>
   show 0≤k / _*1+IntList.dot (IntList.sdiv l _) w
   rw [Int.mul_one,IntList.dot_sdiv_left l w (Int.dvd_refl _),← Int.add_ediv_of_dvd_right (IntList.gcd_dvd_dot_left l w)]
   exact Int.ediv_nonneg (Int.mul_one k▸h) (Int.natCast_nonneg _)
theorem comb_ok {i:Nat} {p q:Vec} (hp:0≤dt p w) (hq:0≤dt q w):0≤dt (comb i p q) w:=by
 unfold comb
 cases c:zpos (nth 0 p i) && zneg (nth 0 q i) with
 | false=>exact hp
 | true =>
  refine tight_ok ?_
  rw [dt_add,dt_sc,dt_sc]
  exact Int.add_nonneg (Int.mul_nonneg (Int.neg_nonneg_of_nonpos (Int.le_of_lt (zneg_lt (band c).2))) hp) (Int.mul_nonneg (Int.le_of_lt (zpos_lt (band c).1)) hq)
theorem elim_ok {i:Nat} {cs:List Vec} (h:Holds1 w cs):Holds1 w (elim i cs):=by
 refine h1a (fun v hv=>?_) fun v hv=>h v (List.mem_filter.mp hv).1
 obtain ⟨p,hp,hv⟩:=List.mem_flatMap.mp hv
 obtain ⟨q,hq,rfl⟩:=List.mem_map.mp hv
 exact comb_ok (h p (List.mem_filter.mp hp).1) (h q (List.mem_filter.mp hq).1)
theorem any_bad {cs:List Vec} (h:Holds1 w cs) (b:cs.any bad=true):False:=by
 obtain ⟨v,hv,hb⟩:=List.any_eq_true.mp b
 exact absurd (bad_dt hb) (Int.not_lt.mpr (h v hv))
theorem fm_ok {m n:Nat} {cs:List Vec} (h:Holds1 w cs) (b:fm m n cs=true):False:=by
 induction n generalizing cs with
 | zero=>exact any_bad h b
 | succ n ih =>
  refine ((Bool.or_eq_true _ _).mp b).elim (any_bad h) fun b=>?_
  generalize pick cs m 0 100000=j at b
  cases j with
  | zero=>cases b
  | succ j=>exact ih (elim_ok h) b
noncomputable def Zero1 (w:Vec) (cj:List Vec):Prop:=∀ v∈cj,dt v w=0
theorem zn:Zero1 w []:=fun _ h=>absurd h List.not_mem_nil
theorem eqs_ok {cs:List Vec} {p:Option Vec} (h:Holds1 w (p.toList++cs)):Zero1 w (eqs cs p).1∧Holds1 w (eqs cs p).2:=by
 induction cs generalizing p with
 | nil=>rw [List.append_nil] at h; exact ⟨zn,h⟩
 | cons u l ih =>
  cases p with
  | none=>exact ih (p:=some u) h
  | some v =>
   show Zero1 w (if u=vng v then (v::(eqs l none).1,(eqs l none).2) else ((eqs l (some u)).1,v::(eqs l (some u)).2)).1∧Holds1 w (if u=vng v then (v::(eqs l none).1,(eqs l none).2) else ((eqs l (some u)).1,v::(eqs l (some u)).2)).2
   by_cases c:u=vng v
   ·rw [if_pos c]
    have ih:=ih (p:=none) fun w hw=>h w (.tail _ (.tail _ hw))
    have h2:=h u (.tail _ (.head _))
    rw [c,dt_vng] at h2
    exact ⟨fun w hw=>(List.mem_cons.mp hw).elim (fun e=>e▸Int.le_antisymm (Int.nonpos_of_neg_nonneg h2) (h v (.head _))) (ih.1 w),ih.2⟩
   ·rw [if_neg c]
    have ih:=ih (p:=some u) fun w hw=>h w (.tail _ hw)
    exact ⟨ih.1,h1c (h v (.head _)) ih.2⟩
theorem sbst_ok {i:Nat} {e v:Vec} (h:dt e w=0):dt (sbst i e v) w=dt v w:=by
 unfold sbst
 cases zz (nth 0 v i) with
 | true=>rfl
 | false=>exact dt_add.trans (by rw [dt_sc,h,Int.mul_zero,Int.add_zero])
theorem gauss_ok {n:Nat} {es cs:List Vec} (z:Zero1 w es) (h:Holds1 w cs):Holds1 w (gauss n es cs):=by
 induction n generalizing es cs with
 | zero=>exact h
 | succ n ih =>
  cases es with
  | nil=>exact h
  | cons e es =>
   have z0:=z _ (.head _)
   show Holds1 w (@Nat.rec (fun _=>List Vec) (gauss n es (e::vng e::cs)) (fun i _=>gauss n (es.map (sbst (i+1) e)) (cs.map fun v=>tight (sbst (i+1) e v))) (unit e.tail 1))
   cases unit e.tail 1 with
   | zero=>exact ih (fun w hw=>z w (.tail _ hw)) (h1c (Int.le_of_eq z0.symm) (h1c (vn0 z0) h))
   | succ i =>
    refine ih (fun v hv=>?_) fun v hv=>?_
    ·obtain ⟨u,hu,rfl⟩:=List.mem_map.mp hv
     exact (sbst_ok z0).trans (z u (.tail _ hu))
    ·obtain ⟨u,hu,rfl⟩:=List.mem_map.mp hv
     exact tight_ok (by rw [sbst_ok z0]; exact h u hu)
theorem fin_ok {n:Nat} {cs:List Vec} (h:Holds1 w cs) (b:fin n cs=true):False :=
 fm_ok (gauss_ok (eqs_ok (p:=none) h).1 (eqs_ok (p:=none) h).2) b
theorem refute_ok {n:Nat} {cls:List DN} {cs:List Vec} (c:All1 w cls) (h:Holds1 w cs) (b:refute n cls cs=true):False:=by
 induction cls generalizing cs with
 | nil=>exact fin_ok h b
 | cons cl cls ih =>
  rcases (Bool.or_eq_true _ _).mp b with b | b
  ·cases e:Nat.beq cl.length 1 with
   | true=>rw [e] at b; cases b
   | false=>rw [e] at b; exact fin_ok h b
  ·obtain ⟨cj,m,g⟩:=c _ (.head _)
   exact ih (fun cl m=>c cl (.tail _ m)) (h1a g h) (List.all_eq_true.mp b cj m)
end
theorem lin_go {f:AF} {ks:List AE} {r:List Nat} {t:List Int} {fs:List DN} (h:((fkeys f).all (mem ks) && ks.all fun e=>(keys e).all (mem ks))=true) (hf:∀ cl∈fs,cl∈ks.flatMap (fact ks)) (b:(dnf ks f false).all (refute ks.length fs)=true):f.den r t:=by
 refine Classical.byContradiction fun c=>?_
 obtain ⟨cj,m,g⟩:=(dnf_ok (band h).1).2 c
 refine refute_ok (fun cl hc=>?_) g (List.all_eq_true.mp b cj m)
 obtain ⟨e,he,hc⟩:=List.mem_flatMap.mp (hf cl hc)
 exact fact_ok (List.all_eq_true.mp (band h).2 e he) (List.any_eq_true.mpr ⟨e,he,AE.eq_rfl e⟩) cl hc
theorem lin_sound {f:AF} (h:valid f=true) (r:List Nat) (t:List Int):f.den r t :=
 lin_go (band h).1 (fun cl hc=>(List.mem_append.mp hc).elim (fun h=>(List.mem_filter.mp h).1) fun h=>(List.mem_filter.mp h).1) (band h).2
end Ar
namespace Ar
class CA {α:Type} (a:α) (l:List α) (i:outParam Nat) (l':outParam (List α)):Prop where
class CN (a:Nat) (r:List Nat) (t:List Int) (x:outParam AE) (r':outParam (List Nat)) (t':outParam (List Int)):Prop where
class CZ (a:Int) (r:List Nat) (t:List Int) (x:outParam AE) (r':outParam (List Nat)) (t':outParam (List Int)):Prop where
class CF (P:Prop) (r:List Nat) (t:List Int) (f:outParam AF) (r':outParam (List Nat)) (t':outParam (List Int)):Prop where
section
variable {α:Type} {l l':List α} {a b:α} {i:Nat}
instance (priority:=high):CA a (a::l) 0 (a::l):=⟨⟩
instance [CA a l i l']:CA a (b::l) (i+1) (b::l'):=⟨⟩
instance:CA a [] 0 [a]:=⟨⟩
end
section
variable {r r1 r2:List Nat} {t t1 t2:List Int} {x y:AE} {p q:AF} {P Q:Prop} {k i n:Nat} {z:Int}
instance (priority:=high):CN 0 r t (.k 0) r t:=⟨⟩
instance (priority:=high):CN 1 r t (.k 1) r t:=⟨⟩
instance (priority:=high):CN 2 r t (.k 2) r t:=⟨⟩
instance (priority:=high):CN 3 r t (.k 3) r t:=⟨⟩
instance (priority:=high):CN 4 r t (.k 4) r t:=⟨⟩
instance (priority:=high):CN 5 r t (.k 5) r t:=⟨⟩
instance (priority:=high):CN 6 r t (.k 6) r t:=⟨⟩
instance (priority:=high):CN 7 r t (.k 7) r t:=⟨⟩
instance (priority:=high):CN 8 r t (.k 8) r t:=⟨⟩
instance (priority:=high):CN 9 r t (.k 9) r t:=⟨⟩
instance (priority:=high):CN 10 r t (.k 10) r t:=⟨⟩
instance (priority:=high):CN 11 r t (.k 11) r t:=⟨⟩
instance (priority:=high):CN 12 r t (.k 12) r t:=⟨⟩
instance (priority:=high):CN 14 r t (.k 14) r t:=⟨⟩
instance (priority:=high):CN 16 r t (.k 16) r t:=⟨⟩
instance (priority:=high):CN 17 r t (.k 17) r t:=⟨⟩
instance (priority:=high):CN 20 r t (.k 20) r t:=⟨⟩
instance (priority:=high):CN 24 r t (.k 24) r t:=⟨⟩
instance (priority:=high):CN 25 r t (.k 25) r t:=⟨⟩
instance (priority:=high):CN 28 r t (.k 28) r t:=⟨⟩
instance (priority:=high):CN 30 r t (.k 30) r t:=⟨⟩
instance (priority:=high):CN 32 r t (.k 32) r t:=⟨⟩
instance (priority:=high):CN 40 r t (.k 40) r t:=⟨⟩
instance (priority:=high):CN 50 r t (.k 50) r t:=⟨⟩
instance (priority:=high):CN 60 r t (.k 60) r t:=⟨⟩
instance (priority:=high):CN 62 r t (.k 62) r t:=⟨⟩
instance (priority:=high):CN 63 r t (.k 63) r t:=⟨⟩
instance (priority:=high):CN 64 r t (.k 64) r t:=⟨⟩
instance (priority:=high):CN 70 r t (.k 70) r t:=⟨⟩
instance (priority:=high):CN 100 r t (.k 100) r t:=⟨⟩
instance (priority:=high):CN 108 r t (.k 108) r t:=⟨⟩
instance (priority:=high):CN 200 r t (.k 200) r t:=⟨⟩
instance (priority:=high):CN 256 r t (.k 256) r t:=⟨⟩
instance (priority:=high):CN 305 r t (.k 305) r t:=⟨⟩
instance (priority:=high):CN 466 r t (.k 466) r t:=⟨⟩
instance (priority:=high):CN 480 r t (.k 480) r t:=⟨⟩
instance (priority:=high):CN 800 r t (.k 800) r t:=⟨⟩
instance (priority:=high):CN 900 r t (.k 900) r t:=⟨⟩
instance (priority:=high):CN 999 r t (.k 999) r t:=⟨⟩
instance (priority:=high):CN 1000 r t (.k 1000) r t:=⟨⟩
instance (priority:=high):CN 1440 r t (.k 1440) r t:=⟨⟩
instance (priority:=high):CN 7919 r t (.k 7919) r t:=⟨⟩
instance (priority:=high):CN 9000 r t (.k 9000) r t:=⟨⟩
instance (priority:=high):CN 9990 r t (.k 9990) r t:=⟨⟩
instance (priority:=high):CN 9900 r t (.k 9900) r t:=⟨⟩
instance (priority:=high):CN 10000 r t (.k 10000) r t:=⟨⟩
instance (priority:=high):CN 59049 r t (.k 59049) r t:=⟨⟩
instance (priority:=high):CN 64000 r t (.k 64000) r t:=⟨⟩
instance (priority:=high):CN 100000 r t (.k 100000) r t:=⟨⟩
instance (priority:=high):CN 999983 r t (.k 999983) r t:=⟨⟩
instance (priority:=high):CN 999999 r t (.k 999999) r t:=⟨⟩
instance (priority:=high):CN 1000000 r t (.k 1000000) r t:=⟨⟩
instance (priority:=high):CN 5904900 r t (.k 5904900) r t:=⟨⟩
instance (priority:=high):CN 16777215 r t (.k 16777215) r t:=⟨⟩
instance (priority:=high):CN 16777216 r t (.k 16777216) r t:=⟨⟩
instance (priority:=high):CN 16777217 r t (.k 16777217) r t:=⟨⟩
instance (priority:=high):CN 1000000000 r t (.k 1000000000) r t:=⟨⟩
instance (priority:=high):CN 1073741824 r t (.k 1073741824) r t:=⟨⟩
instance (priority:=high):CN 1000000000000 r t (.k 1000000000000) r t:=⟨⟩
instance (priority:=high):CN 1099511627776 r t (.k 1099511627776) r t:=⟨⟩
instance (priority:=high):CN 9223372036854775808 r t (.k 9223372036854775808) r t:=⟨⟩
instance (priority:=low) [CA n r i r1]:CN n r t (.v false i) r1 t:=⟨⟩
instance (priority:=high):CZ 0 r t (.k 0) r t:=⟨⟩
instance (priority:=high):CZ 1 r t (.k 1) r t:=⟨⟩
instance (priority:=high):CZ 2 r t (.k 2) r t:=⟨⟩
instance (priority:=high):CZ 3 r t (.k 3) r t:=⟨⟩
instance (priority:=high):CZ 4 r t (.k 4) r t:=⟨⟩
instance (priority:=high):CZ 5 r t (.k 5) r t:=⟨⟩
instance (priority:=high):CZ 6 r t (.k 6) r t:=⟨⟩
instance (priority:=high):CZ 7 r t (.k 7) r t:=⟨⟩
instance (priority:=high):CZ 8 r t (.k 8) r t:=⟨⟩
instance (priority:=high):CZ 9 r t (.k 9) r t:=⟨⟩
instance (priority:=high):CZ 10 r t (.k 10) r t:=⟨⟩
instance (priority:=high):CZ 11 r t (.k 11) r t:=⟨⟩
instance (priority:=high):CZ 12 r t (.k 12) r t:=⟨⟩
instance (priority:=high):CZ 14 r t (.k 14) r t:=⟨⟩
instance (priority:=high):CZ 16 r t (.k 16) r t:=⟨⟩
instance (priority:=high):CZ 17 r t (.k 17) r t:=⟨⟩
instance (priority:=high):CZ 20 r t (.k 20) r t:=⟨⟩
instance (priority:=high):CZ 24 r t (.k 24) r t:=⟨⟩
instance (priority:=high):CZ 25 r t (.k 25) r t:=⟨⟩
instance (priority:=high):CZ 28 r t (.k 28) r t:=⟨⟩
instance (priority:=high):CZ 30 r t (.k 30) r t:=⟨⟩
instance (priority:=high):CZ 32 r t (.k 32) r t:=⟨⟩
instance (priority:=high):CZ 40 r t (.k 40) r t:=⟨⟩
instance (priority:=high):CZ 50 r t (.k 50) r t:=⟨⟩
instance (priority:=high):CZ 60 r t (.k 60) r t:=⟨⟩
instance (priority:=high):CZ 62 r t (.k 62) r t:=⟨⟩
instance (priority:=high):CZ 63 r t (.k 63) r t:=⟨⟩
instance (priority:=high):CZ 64 r t (.k 64) r t:=⟨⟩
instance (priority:=high):CZ 70 r t (.k 70) r t:=⟨⟩
instance (priority:=high):CZ 100 r t (.k 100) r t:=⟨⟩
instance (priority:=high):CZ 108 r t (.k 108) r t:=⟨⟩
instance (priority:=high):CZ 200 r t (.k 200) r t:=⟨⟩
instance (priority:=high):CZ 256 r t (.k 256) r t:=⟨⟩
instance (priority:=high):CZ 305 r t (.k 305) r t:=⟨⟩
instance (priority:=high):CZ 466 r t (.k 466) r t:=⟨⟩
instance (priority:=high):CZ 480 r t (.k 480) r t:=⟨⟩
instance (priority:=high):CZ 800 r t (.k 800) r t:=⟨⟩
instance (priority:=high):CZ 900 r t (.k 900) r t:=⟨⟩
instance (priority:=high):CZ 999 r t (.k 999) r t:=⟨⟩
instance (priority:=high):CZ 1000 r t (.k 1000) r t:=⟨⟩
instance (priority:=high):CZ 1440 r t (.k 1440) r t:=⟨⟩
instance (priority:=high):CZ 7919 r t (.k 7919) r t:=⟨⟩
instance (priority:=high):CZ 9000 r t (.k 9000) r t:=⟨⟩
instance (priority:=high):CZ 9900 r t (.k 9900) r t:=⟨⟩
instance (priority:=high):CZ 10000 r t (.k 10000) r t:=⟨⟩
instance (priority:=high):CZ 59049 r t (.k 59049) r t:=⟨⟩
instance (priority:=high):CZ 64000 r t (.k 64000) r t:=⟨⟩
instance (priority:=high):CZ 100000 r t (.k 100000) r t:=⟨⟩
instance (priority:=high):CZ 999983 r t (.k 999983) r t:=⟨⟩
instance (priority:=high):CZ 999999 r t (.k 999999) r t:=⟨⟩
instance (priority:=high):CZ 1000000 r t (.k 1000000) r t:=⟨⟩
instance (priority:=high):CZ 5904900 r t (.k 5904900) r t:=⟨⟩
instance (priority:=high):CZ 16777215 r t (.k 16777215) r t:=⟨⟩
instance (priority:=high):CZ 16777216 r t (.k 16777216) r t:=⟨⟩
instance (priority:=high):CZ 16777217 r t (.k 16777217) r t:=⟨⟩
instance (priority:=high):CZ 1000000000 r t (.k 1000000000) r t:=⟨⟩
instance (priority:=high):CZ 1073741824 r t (.k 1073741824) r t:=⟨⟩
instance (priority:=high):CZ 1000000000000 r t (.k 1000000000000) r t:=⟨⟩
instance (priority:=high):CZ 1099511627776 r t (.k 1099511627776) r t:=⟨⟩
instance (priority:=high):CZ 9223372036854775808 r t (.k 9223372036854775808) r t:=⟨⟩
instance (priority:=low) [CA z t i t1]:CZ z r t (.v true i) r t1:=⟨⟩
instance {a:Nat} {b:Nat} [CN a r t x r1 t1] [CN b r1 t1 y r2 t2]:CN (a+b) r t (.o 0 x y) r2 t2:=⟨⟩
instance {a:Nat} {b:Nat} [CN a r t x r1 t1] [CN b r1 t1 y r2 t2]:CN (a-b) r t (.o 1 x y) r2 t2:=⟨⟩
instance {a:Nat} {b:Nat} [CN a r t x r1 t1] [CN b r1 t1 y r2 t2]:CN (a*b) r t (.o 2 x y) r2 t2:=⟨⟩
instance {a:Nat} {b:Nat} [CN a r t x r1 t1] [CN b r1 t1 y r2 t2]:CN (a / b) r t (.o 3 x y) r2 t2:=⟨⟩
instance {a:Nat} {b:Nat} [CN a r t x r1 t1] [CN b r1 t1 y r2 t2]:CN (a%b) r t (.o 4 x y) r2 t2:=⟨⟩
instance {a:Nat} {b:Nat} [CN a r t x r1 t1] [CN b r1 t1 y r2 t2]:CN (a ^ b) r t (.o 5 x y) r2 t2:=⟨⟩
instance {a:Int} {b:Int} [CZ a r t x r1 t1] [CZ b r1 t1 y r2 t2]:CZ (a+b) r t (.o 8 x y) r2 t2:=⟨⟩
instance {a:Int} {b:Int} [CZ a r t x r1 t1] [CZ b r1 t1 y r2 t2]:CZ (a-b) r t (.o 9 x y) r2 t2:=⟨⟩
instance {a:Int} {b:Int} [CZ a r t x r1 t1] [CZ b r1 t1 y r2 t2]:CZ (a*b) r t (.o 10 x y) r2 t2:=⟨⟩
instance {a:Int} {b:Int} [CZ a r t x r1 t1] [CZ b r1 t1 y r2 t2]:CZ (a / b) r t (.o 11 x y) r2 t2:=⟨⟩
instance {a:Int} {b:Int} [CZ a r t x r1 t1] [CZ b r1 t1 y r2 t2]:CZ (a%b) r t (.o 12 x y) r2 t2:=⟨⟩
instance {a:Int} {b:Nat} [CZ a r t x r1 t1] [CN b r1 t1 y r2 t2]:CZ (a ^ b) r t (.o 13 x y) r2 t2:=⟨⟩
instance {a:Nat} {b:Nat} [CN a r t x r1 t1] [CN b r1 t1 y r2 t2]:CF (a≤b) r t (.r 0 x y) r2 t2:=⟨⟩
instance {a:Nat} {b:Nat} [CN a r t x r1 t1] [CN b r1 t1 y r2 t2]:CF (a < b) r t (.r 1 x y) r2 t2:=⟨⟩
instance {a:Nat} {b:Nat} [CN a r t x r1 t1] [CN b r1 t1 y r2 t2]:CF (a=b) r t (.r 2 x y) r2 t2:=⟨⟩
instance {a:Int} {b:Int} [CZ a r t x r1 t1] [CZ b r1 t1 y r2 t2]:CF (a≤b) r t (.r 3 x y) r2 t2:=⟨⟩
instance {a:Int} {b:Int} [CZ a r t x r1 t1] [CZ b r1 t1 y r2 t2]:CF (a < b) r t (.r 4 x y) r2 t2:=⟨⟩
instance {a:Int} {b:Int} [CZ a r t x r1 t1] [CZ b r1 t1 y r2 t2]:CF (a=b) r t (.r 5 x y) r2 t2:=⟨⟩
instance {a:Nat} [CN a r t x r1 t1]:CN (Nat.succ a) r t (.o 0 x (.k 1)) r1 t1:=⟨⟩
instance {a:Nat} [CN a r t x r1 t1]:CZ (a:Int) r t (.o 15 x x) r1 t1:=⟨⟩
instance {a:Int} [CZ a r t x r1 t1]:CN a.toNat r t (.o 6 x x) r1 t1:=⟨⟩
instance {a:Int} [CZ a r t x r1 t1]:CN a.natAbs r t (.o 7 x x) r1 t1:=⟨⟩
instance {a:Int} [CZ a r t x r1 t1]:CZ (-a) r t (.o 14 x x) r1 t1:=⟨⟩
instance:CF False r t (.r 6 (.k 0) (.k 0)) r t:=⟨⟩
instance [CF P r t p r1 t1]:CF (¬ P) r t (.b 0 p (.r 6 (.k 0) (.k 0))) r1 t1:=⟨⟩
instance [CF P r t p r1 t1] [CF Q r1 t1 q r2 t2]:CF (P→Q) r t (.b 0 p q) r2 t2:=⟨⟩
instance [CF P r t p r1 t1] [CF Q r1 t1 q r2 t2]:CF (P∧Q) r t (.b 1 p q) r2 t2:=⟨⟩
instance [CF P r t p r1 t1] [CF Q r1 t1 q r2 t2]:CF (P∨Q) r t (.b 2 p q) r2 t2:=⟨⟩
instance [CF P r t p r1 t1] [CF Q r1 t1 q r2 t2]:CF (P↔Q) r t (.b 3 p q) r2 t2:=⟨⟩
end
end Ar
local macro_rules | `(tactic| walk_at "lin")=>`(tactic| (refine' (?k:Ar.CF ?P [] [] _ _ _→?P) inferInstance; refine (fun _=>Ar.lin_sound (f:=?f) ?h ?r ?t:Ar.CF _ _ _ ?f ?r ?t→_); kernel_rfl!))
local macro_rules | `(tactic| lia)=>`(tactic| first | walk_at "lin" | omega)
set_option tactic.hygienic false
inductive V where
 | none
 | bool (b:Bool)
 | int (i:Int)
 | str (s:Str)
 | bytes (b:Array UInt8)
 | ref (a:Addr)
 | oth (v:Value)
noncomputable def V.ctorIdx (v:V):Nat:=@V.casesOn (fun _=>Nat) v 0 (fun _=>1) (fun _=>2) (fun _=>3) (fun _=>4) (fun _=>5) fun _=>6
noncomputable def er:Value→V
 | .none=>.none
 | .bool b=>.bool b
 | .int i _=>.int i
 | .str s _=>.str s
 | .bytes b _=>.bytes b
 | .ref a=>.ref a
 | v=>.oth v
inductive O where
 | list (vs:List V)
 | tuple (vs:List V)
 | dict (kvs:List (Int×V))
 | inst (C:Addr) (fs:List (Str×V))
noncomputable def O.ctorIdx (v:O):Nat:=@O.casesOn (fun _=>Nat) v (fun _=>0) (fun _=>1) (fun _=>2) fun _ _=>3
noncomputable abbrev Sto:=Addr→Option O
noncomputable abbrev Loc:=List (Option V)
noncomputable abbrev KV:=V→Sto→Prop
noncomputable abbrev KL:=Loc→Sto→Prop
noncomputable abbrev KB:=Bool→Sto→Prop
noncomputable abbrev KA:=List V→Sto→Prop
noncomputable abbrev Vars:=List (Str×Option Addr)
noncomputable def Sto.set (σ:Sto) (a:Addr) (o:O):Sto:=fun b=>if b=a then some o else σ b
noncomputable def FRel:List DictEntry→List (Str×V)→Prop
 | [],[]=>True
 | e::es,f::fs=>(∃ t,e.key=.str f.1 t)∧er e.val=f.2∧FRel es fs
 | _,_=>False
structure Ctx where
 prog:Program
 w:World
 K:Frag
 p:Program
 loose:List Str
 mean:ExcName→Option Value
 mg:Str→Option Value
 mb:Str→Option Value
 base:Heap
 exc:Addr
structure Ctx.Ok (c:Ctx):Prop where
 X:c.K.In c.base
 T:Top c.p c.loose c.mean c.mg c.mb c.base
noncomputable def ORel (c:Ctx) (h:Heap) (a dx:Addr):O→Prop
 | .list vs=>∃ (items:List Value) (n:Nat),h.get? a=some (listOf items.toArray n)∧items.map er=vs
 | .tuple vs=>∃ items:List Value,IsTup h a items.toArray∧items.map er=vs
 | .dict kvs=>(a == sysModules)=false∧∃ kws:List (Int×Value),h.DictOf (intKind c.prog c.w) a kws∧kws.map (fun p=>(p.1,er p.2))=kvs
 | .inst C fs=>h.get? a=some (instObj C dx)∧∃ es n,h.get? dx=some (dictOf es n)∧FRel es fs∧(fs.map (·.1)).Nodup
noncomputable def fp (a dx:Addr):O→List Addr
 | .inst _ _=>[a,dx]
 | _=>[a]
theorem fp_self (a dx:Addr) (o:O):a∈fp a dx o:=by cases o <;> simp [fp]
theorem ORel.same {c:Ctx} {h h':Heap} {a dx:Addr} {o:O} (x:ORel c h a dx o) (k:∀ b∈fp a dx o,h'.get? b=h.get? b):ORel c h' a dx o:=by
 have ka:=k a (fp_self a dx o)
 cases o with
 | list vs =>
  obtain ⟨items,n,ho,e⟩:=x
  exact ⟨items,n,ka.trans ho,e⟩
 | tuple vs =>
  obtain ⟨items,⟨ob,ho,r⟩,e⟩:=x
  exact ⟨items,⟨ob,ka.trans ho,r⟩,e⟩
 | dict kvs =>
  obtain ⟨lo,kws,⟨ob,es,ep,ho,r⟩,e⟩:=x
  exact ⟨lo,kws,⟨ob,es,ep,ka.trans ho,r⟩,e⟩
 | inst C fs =>
  obtain ⟨h1,es,n,h2,r⟩:=x
  exact ⟨ka.trans h1,es,n,(k dx (by simp [fp])).trans h2,r⟩
theorem ORel.some {c:Ctx} {h:Heap} {a dx:Addr} {o:O} (x:ORel c h a dx o):∀ b∈fp a dx o,∃ ob,h.get? b=some ob:=by
 intro b hb
 cases o with
 | list vs=>obtain ⟨items,n,ho,e⟩:=x; simp [fp] at hb; subst hb; exact ⟨_,ho⟩
 | tuple vs=>obtain ⟨items,⟨ob,ho,r⟩,e⟩:=x; simp [fp] at hb; subst hb; exact ⟨_,ho⟩
 | dict kvs=>obtain ⟨lo,kws,⟨ob,es,ep,ho,r⟩,e⟩:=x; simp [fp] at hb; subst hb; exact ⟨_,ho⟩
 | inst C fs =>
  obtain ⟨h1,es,n,h2,r⟩:=x
  simp [fp] at hb
  rcases hb with rfl | rfl
  ·exact ⟨_,h1⟩
  ·exact ⟨_,h2⟩
structure HRel (c:Ctx) (σ:Sto) (h:Heap) (δ:Addr→Addr):Prop where
 rel:∀ a o,σ a=some o→ORel c h a (δ a) o
 sep:∀ a o a' o' b,σ a=some o→σ a'=some o'→b∈fp a (δ a) o→b∈fp a' (δ a') o'→a=a'
 two:∀ a C fs,σ a=some (.inst C fs)→a≠δ a
noncomputable abbrev PS:=List (Addr×(Obj→Prop))
structure Act extends Ctx where
 A:Around
 env:Env
 L:Addr
 fenv:Env
 outer:List Env
 comp:Option Addr
 vars:Vars
 mf:Str→Option Value
noncomputable def Act.cells (Φ:Act):List Addr:=Φ.vars.filterMap (·.2)
noncomputable def NsP (m:Str→Option Value) (o:Obj):Prop:=∃ es ep,o.data=.dict es ep∧StrKeys es∧∀ name,nsFind es name=m name
theorem ns_of {h:Heap} {a:Addr} {m:Str→Option Value} {o:Obj} (ho:h.get? a=some o) (x:NsP m o):h.Ns a m:=by obtain ⟨es,ep,r⟩:=x; exact ⟨o,es,ep,ho,r⟩
theorem of_ns {h:Heap} {a:Addr} {m:Str→Option Value} (x:h.Ns a m):∃ o,h.get? a=some o∧NsP m o:=by obtain ⟨o,es,ep,ho,r⟩:=x; exact ⟨o,ho,es,ep,r⟩
noncomputable def CellP (ov:Option V) (o:Obj):Prop:=∃ v,o.data=.cell v∧v.map er=ov
theorem nm {α:Type} {a:α} {p:Prop} (h:a∈[]):p:=absurd h List.not_mem_nil
theorem nn {α:Type} {o:α} {p:Prop} (e:none=some o):p:=by cases e
noncomputable def VRel (m:Str→Option Value) (h:Heap) (v:Str×Option Addr) (o:Option V):Prop:=@Option.rec Addr (fun _=>Prop) ((m v.1).map er=o) (fun c=>∃ ob,h.get? c=some ob∧CellP o ob) v.2
class inductive NRel (m:Str→Option Value) (h:Heap):Vars→Loc→Prop
 | nil:NRel m h [] []
 | cons {v vs o M}:VRel m h v o→NRel m h vs M→NRel m h (v::vs) (o::M)
noncomputable def Names (Φ:Act) (M:Loc) (m:Str→Option Value) (h:Heap):Prop :=
 match Φ.comp with
  | none=>NRel m h Φ.vars M
  | some C=>m=Φ.mf∧∃ mc,h.Ns C mc∧NRel mc h Φ.vars M
noncomputable def prot (Φ:Act) (P:PS):List Addr:=Φ.L::(Φ.comp.toList++(Φ.cells++P.map (·.1)))
structure St (Φ:Act) (P:PS) (M:Loc) (σ:Sto) (h:Heap):Prop where
 fr:∃ m,Fr Φ.base Φ.L h m∧Names Φ M m h
 ps:∀ p∈P,∃ o,h.get? p.1=some o∧p.2 o
 st:∃ δ,HRel Φ.toCtx σ h δ∧∀ a o,σ a=some o→∀ b∈fp a (δ a) o,Φ.base.get? b=none∧b∉prot Φ P
 nd:(prot Φ P).Nodup
 old:∀ b∈prot Φ P,Φ.base.get? b=none
 out:∀ env∈Φ.outer,env.scope.kind≠.module∧∃ L,env.frame=some L∧∃ m,(L,NsP m)∈P
theorem NRel.same {m:Str→Option Value} {h h':Heap} {vs:Vars} {M:Loc} (n:NRel m h vs M) (k:∀ b∈vs.filterMap (·.2),∀ o,h.get? b=some o→h'.get? b=some o):NRel m h' vs M:=by
 induction n with
 | nil=>exact .nil
 | @cons v vs o M e _ ih =>
  obtain ⟨x,c⟩:=v
  cases c with
  | none=>exact .cons e (ih k)
  | some c=>obtain ⟨ob,ho,hp⟩:=e; exact .cons ⟨ob,k c (.head _) ob ho,hp⟩ (ih fun b hb=>k b (.tail _ hb))
theorem NRel.has {m:Str→Option Value} {h:Heap} {vs:Vars} {M:Loc} (n:NRel m h vs M) {b:Addr} (hb:b∈vs.filterMap (·.2)):∃ o,h.get? b=some o:=by
 induction n with
 | nil=>exact nm hb
 | @cons v vs o M e _ ih =>
  obtain ⟨x,c⟩:=v
  cases c with
  | none=>exact ih hb
  | some c =>
   rcases List.mem_cons.mp hb with rfl | hb
   ·obtain ⟨ob,ho,_⟩:=e; exact ⟨ob,ho⟩
   ·exact ih hb
theorem Names.same {Φ:Act} {P:PS} {M:Loc} {m:Str→Option Value} {h h':Heap} (x:Names Φ M m h) (k:∀ b∈prot Φ P,∀ o,h.get? b=some o→h'.get? b=some o):Names Φ M m h':=by
 have kc:∀ b∈Φ.vars.filterMap (·.2),∀ o,h.get? b=some o→h'.get? b=some o:=fun b hb=>k b (by
  simp only [prot,List.mem_cons,List.mem_append,Act.cells]; exact .inr (.inr (.inl hb)))
 unfold Names at x ⊢
 cases hcomp:Φ.comp with
 | none=>rw [hcomp] at x; exact x.same kc
 | some C =>
  rw [hcomp] at x
  obtain ⟨e,mc,hn,r⟩:=x
  obtain ⟨o,ho,hp⟩:=of_ns hn
  exact ⟨e,mc,ns_of (k C (by simp [prot,hcomp]) o ho) hp,r.same kc⟩
theorem St.same {Φ:Act} {P:PS} {M:Loc} {σ:Sto} {h h':Heap} (x:St Φ P M σ h) (kb:∀ b o,Φ.base.get? b=some o→h.get? b=some o→h'.get? b=some o)
  (kp:∀ b∈prot Φ P,∀ o,h.get? b=some o→h'.get? b=some o)
  (ks:∀ δ,HRel Φ.toCtx σ h δ→(∀ a o,σ a=some o→∀ b∈fp a (δ a) o,Φ.base.get? b=none∧b∉prot Φ P)→∀ a o,σ a=some o→∀ b∈fp a (δ a) o,∀ ob,h.get? b=some ob→h'.get? b=some ob):St Φ P M σ h':=by
 obtain ⟨⟨m,F,N⟩,ps,⟨δ,R,hb⟩,nd,old,out⟩:=x
 refine ⟨⟨m,?_,N.same kp⟩,?_,⟨δ,?_,hb⟩,nd,old,out⟩
 ·obtain ⟨o,ho,hp⟩:=of_ns F.ns
  exact ⟨ns_of (kp Φ.L (by simp [prot]) o ho) hp,fun b o e=>kb b o e (F.keep b o e),F.above⟩
 ·intro p hp
  obtain ⟨o,ho,r⟩:=ps p hp
  exact ⟨o,kp p.1 (by simp only [prot,List.mem_cons,List.mem_append,List.mem_map]; exact .inr (.inr (.inr ⟨p,hp,rfl⟩))) o ho,r⟩
 ·refine ⟨fun a o e=>(R.rel a o e).same fun b hb'=>?_,R.sep,R.two⟩
  obtain ⟨ob,hob⟩:=(R.rel a o e).some b hb'
  rw [hob]; exact ks δ R hb a o e b hb' ob hob
theorem St.keeps {Φ:Act} {P:PS} {M:Loc} {σ:Sto} {h h':Heap} (x:St Φ P M σ h) (k:∀ b o,h.get? b=some o→h'.get? b=some o):St Φ P M σ h' :=
 x.same (fun b o _ e=>k b o e) (fun b _ o e=>k b o e) fun _ _ _ _ _ _ b _ ob e=>k b ob e
theorem St.but {Φ:Act} {P:PS} {M:Loc} {σ:Sto} {h h':Heap} {d:Addr} (x:St Φ P M σ h) (hd:Φ.base.get? d=none) (hp:d∉prot Φ P)
  (hs:∀ δ,HRel Φ.toCtx σ h δ→(∀ a o,σ a=some o→∀ b∈fp a (δ a) o,Φ.base.get? b=none∧b∉prot Φ P)→∀ a o,σ a=some o→d∉fp a (δ a) o)
  (k:∀ b o,b≠d→h.get? b=some o→h'.get? b=some o):St Φ P M σ h' :=
 x.same (fun b o e e'=>k b o (fun q=>by rw [q,hd] at e; cases e) e') (fun b hb o e=>k b o (fun q=>hp (q▸hb)) e)
  fun δ R f a o e b hb ob e'=>k b ob (fun q=>hs δ R f a o e (q▸hb)) e'
noncomputable def isOth:V→Bool
 | .oth _=>true
 | _=>false
theorem noth {v:V} (h:isOth v=false):∀ w,v≠.oth w:=fun w e=>by rw [e] at h; cases h
theorem len1 {α:Type} {l:List α} (h:l.length=1):∃ a,l=[a]:=List.length_eq_one_iff.mp h
theorem lenS {α:Type} {l:List α} {n:Nat} (h:l.length=n+1):∃ a l',l=a::l'∧l'.length=n:=by
 cases l with
 | nil=>cases h
 | cons a l'=>exact ⟨a,l',rfl,Nat.succ.inj h⟩
theorem len2 {α:Type} {l:List α} (h:l.length=2):∃ a b,l=[a,b]:=by
 obtain ⟨a,l',rfl,g⟩:=lenS h
 obtain ⟨b,rfl⟩:=len1 g
 exact ⟨a,b,rfl⟩
theorem len1d {α:Type} {l:List α} (d:α) (h:l.length=1):l=[l.headD d]:=by
 obtain ⟨a,rfl⟩:=len1 h; rfl
structure Sm (s s':Shared):Prop where
 gens:s'.gens=s.gens
 drawn:s'.drawn=s.drawn
 os:s'.os=s.os
theorem Sm.refl (s:Shared):Sm s s:=⟨rfl,rfl,rfl⟩
theorem Sm.trans {a b c:Shared} (x:Sm a b) (y:Sm b c):Sm a c:=⟨y.gens.trans x.gens,y.drawn.trans x.drawn,y.os.trans x.os⟩
noncomputable def frames (Φ:Act):List Addr:=(Φ.fenv::Φ.outer).filterMap (·.frame)
structure Act.Ok (Φ:Act) (n:Nat):Prop where
 ctx:Φ.toCtx.Ok
 hand:n≠0→Φ.A.handled=none
 frames:Φ.A.frames=some (Φ.fenv::Φ.outer)
 ff:Φ.fenv.frame=some Φ.L
 fk:Φ.fenv.scope.kind=.function
 depth:Φ.A.depth+8*n≤800
 units:Φ.A.units+64*n≤9000
 compf:Φ.comp≠some Φ.L
 kind:Φ.env.scope.kind=.function
 loc:Φ.env.locals=Φ.comp.getD Φ.L
 glob:Φ.env.globals=mainGlobals
 blt:Φ.env.builtins=builtinsNs
 nms:(Φ.env.scope.names.map (·.1)).Nodup
 vok:∀ v∈Φ.vars,match v.2 with
  | none=>(v.1,NameKind.local)∈Φ.env.scope.names
  | some c=>(v.1,NameKind.cell)∈Φ.env.scope.names∧Φ.env.cells.lookup v.1=some c
 vnd:(Φ.vars.map (·.1)).Nodup
 dbg:∀ v∈Φ.env.scope.names,(v.1 == ("__debug__" : Str))=false
 fn:Φ.comp=none→Φ.fenv=Φ.env
noncomputable def FlyAt (Φ:Act) (P:PS) (M:Loc) (σ:Sto) (e:Addr) (h:Heap):Prop :=
 ∃ B t h₀,St Φ P M σ h₀∧(∀ b o,h₀.get? b=some o→b∉frames Φ→B.get? b=some o)∧h₀.UpToSlots h∧Heap.FlyingW B (Φ.fenv::Φ.outer) e (.ref Φ.exc) (.ref t) h
noncomputable def MadeAt (Φ:Act) (P:PS) (M:Loc) (σ:Sto) (e:Addr) (h:Heap):Prop :=
 ∃ h₀ vs,St Φ P M σ h₀∧Heap.MadeExcOf h₀ h e (.ref Φ.exc) vs
noncomputable def PE (Φ:Act) (P:PS) (M:Loc) (s:Shared) (Q:KV) (v:Value) (s':Shared):Prop :=
 Sm s s'∧∃ σ',St Φ P M σ' s'.heap∧Q (er v) σ'
noncomputable def HeldAt (Φ:Act) (P:PS) (M:Loc) (σ:Sto) (e:Addr) (h:Heap):Prop :=
 ∃ B t h₀,St Φ P M σ h₀∧(∀ b o,h₀.get? b=some o→b∉frames Φ→B.get? b=some o)∧h₀.UpToSlots h∧Heap.HeldW B (Φ.fenv::Φ.outer) e (.ref Φ.exc) (.ref t) Φ.L h
noncomputable def ExAt (Φ:Act) (P:PS) (M:Loc) (σ:Sto) (e:Addr) (h:Heap):Prop:=MadeAt Φ P M σ e h∨FlyAt Φ P M σ e h∨HeldAt Φ P M σ e h
noncomputable def PX (Φ:Act) (P:PS) (s:Shared) (R:KL) (x:Value) (s':Shared):Prop :=
 Sm s s'∧∃ M' σ' e,x=.ref e∧R M' σ'∧ExAt Φ P M' σ' e s'.heap
theorem PE.trans {Φ:Act} {P:PS} {M:Loc} {s s' s'':Shared} {Q:KV} {v:Value} (m:Sm s s') (x:PE Φ P M s' Q v s''):PE Φ P M s Q v s'':=⟨m.trans x.1,x.2⟩
theorem PX.trans {Φ:Act} {P:PS} {s s' s'':Shared} {R:KL} {v:Value} (m:Sm s s') (x:PX Φ P s' R v s''):PX Φ P s R v s'':=⟨m.trans x.1,x.2⟩
structure SV (Φ:Act) (t:Sem Value) (M:Loc) (σ:Sto) (Q:KV) (R:KL):Prop where
 to:∀ (P:PS) (s:Shared),St Φ P M σ s.heap→wpAny (model Φ.prog Φ.w) Φ.A t (PE Φ P M s Q) (PX Φ P s R) s
structure SE (Φ:Act) (e:Expr) (M:Loc) (σ:Sto) (Q:KV) (R:KL):Prop where
 to:SV Φ (eval e Φ.env) M σ Q R
noncomputable def PT (Φ:Act) (P:PS) (M:Loc) (s:Shared) (Q:KB) (v:Bool) (s':Shared):Prop :=
 Sm s s'∧∃ σ',St Φ P M σ' s'.heap∧Q v σ'
structure SBt (Φ:Act) (t:Sem Bool) (M:Loc) (σ:Sto) (Q:KB) (R:KL):Prop where
 to:∀ (P:PS) (s:Shared),St Φ P M σ s.heap→wpAny (model Φ.prog Φ.w) Φ.A t (PT Φ P M s Q) (PX Φ P s R) s
structure ST (Φ:Act) (e:Expr) (M:Loc) (σ:Sto) (Q:KB) (R:KL):Prop where
 to:SBt Φ (isTrue e Φ.env (eval e Φ.env)) M σ Q R
inductive Fl where
 | next
 | cont
 | ret (v:V)
noncomputable def Fl.ctorIdx (v:Fl):Nat:=@Fl.casesOn (fun _=>Nat) v 0 1 fun _=>2
noncomputable abbrev KF:=Fl→Loc→Sto→Prop
noncomputable def PF (Φ:Act) (P:PS) (s:Shared) (Q:KF) (f:Flow) (s':Shared):Prop :=
 Sm s s'∧∃ M' σ',St Φ P M' σ' s'.heap∧(match f with | .next=>Q .next M' σ' | .cont=>Q .cont M' σ' | .ret v=>Q (.ret (er v)) M' σ' | .brk=>False)
structure SF (Φ:Act) (t:Sem Flow) (M:Loc) (σ:Sto) (Q:KF) (R:KL):Prop where
 to:∀ (P:PS) (s:Shared),St Φ P M σ s.heap→wpAny (model Φ.prog Φ.w) Φ.A t (PF Φ P s Q) (PX Φ P s R) s
structure SX (Φ:Act) (st:Stmt) (M:Loc) (σ:Sto) (Q:KF) (R:KL):Prop where
 to:SF Φ (exec st Φ.env) M σ Q R
structure SS (Φ:Act) (ss:List Stmt) (M:Loc) (σ:Sto) (Q:KF) (R:KL):Prop where
 to:SF Φ (execs ss Φ.env) M σ Q R
section
variable {Φ:Act} {P:PS} {M:Loc} {σ:Sto} {Q Q':KV} {R R':KL}
theorem PX.mono {s:Shared} {x:Value} {s':Shared} (h:PX Φ P s R x s') (k:∀ M' σ',R M' σ'→R' M' σ'):PX Φ P s R' x s' :=
 by obtain ⟨m,M',σ',e,hx,hr,r⟩:=h; exact ⟨m,M',σ',e,hx,k _ _ hr,r⟩
end
theorem Sto.set_same {σ:Sto} {a:Addr} {o:O}:(σ.set a o) a=some o:=by simp [Sto.set]
theorem Sto.set_ne {σ:Sto} {a b:Addr} {o:O} (h:b≠a):(σ.set a o) b=σ b:=by simp [Sto.set,h]
class inductive Var:Vars→Loc→Str→V→Prop
 | head {x c vs V M}:Var ((x,c)::vs) (some V::M) x V
 | tail {p vs o M x V}:Var vs M x V→Var (p::vs) (o::M) x V
class inductive SetV:Vars→Loc→Str→V→Loc→Prop
 | head {x c vs V o M}:SetV ((x,c)::vs) (o::M) x V (some V::M)
 | tail {p vs o M x V M'}:SetV vs M x V M'→SetV (p::vs) (o::M) x V (o::M')
section
variable {Φ:Act} {P:PS} {M:Loc} {σ:Sto} {h h':Heap}
theorem St.alloc {a dx:Addr} {o:O} (x:St Φ P M σ h) (k:∀ b o,h.get? b=some o→h'.get? b=some o) (hrel:ORel Φ.toCtx h' a dx o)
  (new:∀ b∈fp a dx o,h.get? b=none) (hne:∀ C fs,o=.inst C fs→a≠dx):σ a=none∧St Φ P M (σ.set a o) h':=by
 have hnone:σ a=none:=by
  cases e:σ a with
  | none=>rfl
  | some o₀ =>
   obtain ⟨δ,R,_⟩:=x.st
   obtain ⟨ob,hob⟩:=(R.rel a o₀ e).some a (fp_self _ _ _)
   rw [new a (fp_self _ _ _)] at hob; cases hob
 refine ⟨hnone,?_⟩
 have y:=x.keeps k
 obtain ⟨fr,ps,⟨δ,R,hb⟩,nd,old,out⟩:=y
 have hbase:∀ b,h.get? b=none→Φ.base.get? b=none:=fun b e=>by
  obtain ⟨m,F,_⟩:=x.fr
  cases q:Φ.base.get? b with
  | none=>rfl
  | some ob=>rw [F.keep b ob q] at e; cases e
 have hprot:∀ b,h.get? b=none→b∉prot Φ P:=fun b e hm=>by
  obtain ⟨m,F,N⟩:=x.fr
  simp only [prot,List.mem_cons,List.mem_append,List.mem_map] at hm
  rcases hm with rfl | hm | hm | ⟨p,hp,rfl⟩
  ·obtain ⟨ob,hob,_⟩:=of_ns F.ns
   rw [e] at hob; cases hob
  ·unfold Names at N
   cases hc:Φ.comp with
   | none=>rw [hc] at hm; simp at hm
   | some C =>
    rw [hc] at hm N
    simp at hm; subst hm
    obtain ⟨_,mc,hn,_⟩:=N
    obtain ⟨ob,hob,_⟩:=of_ns hn
    rw [e] at hob; cases hob
  ·have gen:∀ {m:Str→Option Value} {vs:Vars} {M:Loc},NRel m h vs M→b∈vs.filterMap (·.2)→False:=fun n hb=>by
    obtain ⟨ob,hob⟩:=n.has hb
    rw [e] at hob; cases hob
   unfold Names at N
   cases hc:Φ.comp with
   | none=>rw [hc] at N; exact gen N hm
   | some C=>rw [hc] at N; obtain ⟨_,mc,_,n⟩:=N; exact gen n hm
  ·obtain ⟨ob,hob,_⟩:=x.ps p hp
   rw [e] at hob; cases hob
 refine ⟨fr,ps,⟨fun b=>if b=a then dx else δ b,⟨fun b o' e=>?_,fun b o1 b' o2 z e1 e2 m1 m2=>?_,fun b C fs e=>?_⟩,fun b o' e z hz=>?_⟩,nd,old,out⟩
 ·by_cases q:b=a
  ·subst q
   rw [Sto.set_same] at e; cases e
   simpa using hrel
  ·rw [Sto.set_ne q] at e
   simpa [q] using R.rel b o' e
 ·have old':∀ {b o},σ b=some o→∀ z∈fp b (δ b) o,h.get? z≠none:=fun {b o} e z hz q=>by
   obtain ⟨δ0,R0,hb0⟩:=x.st
   -- the footprints in the old heap are those of the new relation: both in h'
   exact absurd q (by
    intro q
    obtain ⟨ob,hob⟩:=(R0.rel b o e).some b (fp_self _ _ _)
    cases o with
    | inst C fs =>
     simp [fp] at hz
     rcases hz with rfl | rfl
     ·rw [q] at hob; cases hob
     ·have h1:=(R0.rel b _ e)
      obtain ⟨g1,es,n,g2,_⟩:=h1
      have h2:=(R.rel b _ e)
      obtain ⟨g3,_⟩:=h2
      have:=k _ _ g1
      rw [g3] at this
      injection this with this
      injection this with _ this _ _
      injection this with this
      rw [this] at q
      rw [q] at g2; cases g2
    | _=>simp [fp] at hz; subst hz; rw [q] at hob; cases hob)
  by_cases q1:b=a
  ·by_cases q2:b'=a
   ·rw [q1,q2]
   ·subst q1
    rw [Sto.set_same] at e1; cases e1
    rw [Sto.set_ne q2] at e2
    simp only [if_true] at m1
    rw [if_neg q2] at m2
    exact absurd (new z m1) (old' e2 z m2)
  ·by_cases q2:b'=a
   ·subst q2
    rw [Sto.set_same] at e2; cases e2
    rw [Sto.set_ne q1] at e1
    simp only [if_true] at m2
    rw [if_neg q1] at m1
    exact absurd (new z m2) (old' e1 z m1)
   ·rw [Sto.set_ne q1] at e1
    rw [Sto.set_ne q2] at e2
    rw [if_neg q1] at m1
    rw [if_neg q2] at m2
    exact R.sep b o1 b' o2 z e1 e2 m1 m2
 ·by_cases q:b=a
  ·subst q
   rw [Sto.set_same] at e; injection e with e
   simpa using hne C fs e
  ·rw [Sto.set_ne q] at e
   simpa [q] using R.two b C fs e
 ·by_cases q:b=a
  ·subst q
   rw [Sto.set_same] at e; cases e
   simp only [if_true] at hz
   exact ⟨hbase z (new z hz),hprot z (new z hz)⟩
  ·rw [Sto.set_ne q] at e
   simp only [if_neg q] at hz
   exact hb b o' e z hz
theorem St.acc {a:Addr} {o:O} (x:St Φ P M σ h) (e:σ a=some o):∃ dx,ORel Φ.toCtx h a dx o∧(∀ b∈fp a dx o,Φ.base.get? b=none∧b∉prot Φ P)∧(∀ C fs,o=.inst C fs→a≠dx) ∧
  ∀ d∈fp a dx o,∀ h' o',(∀ b ob,b≠d→h.get? b=some ob→h'.get? b=some ob)→ORel Φ.toCtx h' a dx o'→fp a dx o'=fp a dx o→(∀ C fs,o'=.inst C fs→a≠dx)→St Φ P M (σ.set a o') h':=by
 obtain ⟨δ,R,hb⟩:=x.st
 refine ⟨δ a,R.rel a o e,hb a o e,fun C fs q=>R.two a C fs (q▸e),fun d hd h' o' k hrel hfp hne=>?_⟩
 obtain ⟨hdb,hdp⟩:=hb a o e d hd
 obtain ⟨⟨m,F,N⟩,ps,_,nd,old,out⟩:=x
 have kp:∀ b∈prot Φ P,∀ o,h.get? b=some o→h'.get? b=some o:=fun b hb' o e'=>k b o (fun q=>hdp (q▸hb')) e'
 refine ⟨⟨m,?_,N.same kp⟩,fun p hp=>?_,⟨δ,⟨fun b o1 e1=>?_,fun b o1 b' o2 z e1 e2 m1 m2=>?_,fun b C fs e1=>?_⟩,fun b o1 e1 z hz=>?_⟩,nd,old,out⟩
 ·obtain ⟨o,ho,hp⟩:=of_ns F.ns
  exact ⟨ns_of (kp Φ.L (by simp [prot]) o ho) hp,fun b o e'=>k b o (fun q=>by rw [q,hdb] at e'; cases e') (F.keep b o e'),F.above⟩
 ·obtain ⟨o,ho,r⟩:=ps p hp
  exact ⟨o,kp p.1 (by simp only [prot,List.mem_cons,List.mem_append,List.mem_map]; exact .inr (.inr (.inr ⟨p,hp,rfl⟩))) o ho,r⟩
 ·by_cases q:b=a
  ·subst q; rw [Sto.set_same] at e1; cases e1; exact hrel
  ·rw [Sto.set_ne q] at e1
   refine (R.rel b o1 e1).same fun z hz=>?_
   obtain ⟨ob,hob⟩:=(R.rel b o1 e1).some z hz
   rw [hob]
   exact k z ob (fun q'=>q (R.sep b o1 a o d e1 e (q'▸hz) hd)) hob
 ·have conv:∀ {b o1 z},(σ.set a o') b=some o1→z∈fp b (δ b) o1→∃ o2,σ b=some o2∧z∈fp b (δ b) o2:=fun {b o1 z} e1 m1=>by
   by_cases q:b=a
   ·subst q; rw [Sto.set_same] at e1; cases e1; exact ⟨o,e,hfp▸m1⟩
   ·rw [Sto.set_ne q] at e1; exact ⟨o1,e1,m1⟩
  obtain ⟨o3,e3,m3⟩:=conv e1 m1
  obtain ⟨o4,e4,m4⟩:=conv e2 m2
  exact R.sep b o3 b' o4 z e3 e4 m3 m4
 ·by_cases q:b=a
  ·subst q; rw [Sto.set_same] at e1; injection e1 with e1; exact hne C fs e1
  ·rw [Sto.set_ne q] at e1; exact R.two b C fs e1
 ·by_cases q:b=a
  ·subst q; rw [Sto.set_same] at e1; cases e1; rw [hfp] at hz; exact hb b o e z hz
  ·rw [Sto.set_ne q] at e1; exact hb b o1 e1 z hz
theorem NRel.var {m:Str→Option Value} {vs:Vars} {M:Loc} {x:Str} {V:V} (n:NRel m h vs M) (hv:Var vs M x V) :
  ∃ c,(x,c)∈vs∧match c with | none=>∃ v,m x=some v∧er v=V | some c=>∃ v,h.IsCell c (some v)∧er v=V:=by
 induction hv with
 | @head x c vs V M =>
  refine ⟨c,.head _,?_⟩
  cases n with | cons e r =>
  cases c with
  | none=>exact Option.map_eq_some_iff.mp e
  | some c =>
   obtain ⟨ob,hob,v,hd,hv⟩:=e
   obtain ⟨v',e1,e2⟩:=Option.map_eq_some_iff.mp hv
   exact ⟨v',⟨ob,hob,by rw [hd,e1]⟩,e2⟩
 | @tail p vs o M x V _ ih =>
  cases n with | cons e r =>
  obtain ⟨c,hc,r⟩:=ih r
  exact ⟨c,.tail _ hc,r⟩
theorem lookup_of_mem {α:Type} {l:List (Str×α)} (nd:(l.map (·.1)).Nodup) {x:Str} {k:α} (hm:(x,k)∈l):l.lookup x=some k:=by
 induction l with
 | nil=>cases hm
 | cons p r ih =>
  obtain ⟨y,j⟩:=p
  rw [List.map_cons,List.nodup_cons] at nd
  rw [List.lookup_cons]
  rcases List.mem_cons.mp hm with e | hm
  ·cases e; simp
  ·have hne:x≠y:=fun q=>nd.1 (q▸List.mem_map.mpr ⟨_,hm,rfl⟩)
   simp only [beq_eq_false_iff_ne.mpr hne]
   exact ih nd.2 hm
end
section
variable {Φ:Act} {n:Nat} {P:PS} {M M':Loc} {σ:Sto} {Q:KV} {R:KL}
theorem SetV.at {vs:Vars} {x:Str} {V:V} (h:SetV vs M x V M'):∃ c,(x,c)∈vs:=by
 induction h with
 | head=>exact ⟨_,.head _⟩
 | tail _ ih=>obtain ⟨c,hc⟩:=ih; exact ⟨c,.tail _ hc⟩
theorem NRel.other {m:Str→Option Value} {h h':Heap} {x:Str} {v:Value} {vs:Vars} {M:Loc} (n:NRel m h vs M) (hx:x∉vs.map (·.1)) (hk:∀ b∈vs.filterMap (·.2),∀ o,h.get? b=some o→h'.get? b=some o):NRel (fun z=>if z=x then some v else m z) h' vs M:=by
 induction n with
 | nil=>exact .nil
 | @cons p vs o M e _ ih =>
  obtain ⟨y,c⟩:=p
  have hx':x∉vs.map (·.1):=fun q=>hx (.tail _ q)
  cases c with
  | none=>exact .cons ((congrArg (Option.map er) (if_neg fun q:y=x=>hx (q▸.head _))).trans e) (ih hx' hk)
  | some c=>obtain ⟨ob,ho,hp⟩:=e; exact .cons ⟨ob,hk c (.head _) ob ho,hp⟩ (ih hx' fun b hb=>hk b (.tail _ hb))
theorem NRel.set_local {m:Str→Option Value} {h h':Heap} {x:Str} {v:Value} {vs:Vars} {M M':Loc} (n:NRel m h vs M) (hs:SetV vs M x (er v) M') (nd:(vs.map (·.1)).Nodup) (hm:(x,none)∈vs)
  (hk:∀ b∈vs.filterMap (·.2),∀ o,h.get? b=some o→h'.get? b=some o):NRel (fun z=>if z=x then some v else m z) h' vs M':=by
 generalize hV:er v=V at hs
 induction hs with
 | @head y c vs V o M =>
  subst hV
  rw [List.map_cons,List.nodup_cons] at nd
  cases n with | cons e r =>
  rcases List.mem_cons.mp hm with q | hm
  ·cases q
   exact .cons (congrArg (Option.map er) (if_pos rfl)) (r.other nd.1 hk)
  ·exact absurd (List.mem_map.mpr ⟨_,hm,rfl⟩) nd.1
 | @tail p vs o M y V M' hs ih =>
  rw [List.map_cons,List.nodup_cons] at nd
  cases n with | cons e r =>
  obtain ⟨z,c⟩:=p
  have hm':(y,none)∈vs:=by
   rcases List.mem_cons.mp hm with q | hm
   ·cases q
    exact absurd (List.mem_map.mpr ⟨_,(SetV.at hs).choose_spec,rfl⟩) nd.1
   ·exact hm
  have hz:z≠y:=fun q=>nd.1 (q▸List.mem_map.mpr ⟨_,hm',rfl⟩)
  cases c with
  | none=>exact .cons ((congrArg (Option.map er) (if_neg hz)).trans e) (ih r nd.2 hm' hk hV)
  | some c=>obtain ⟨ob,ho,hp⟩:=e; exact .cons ⟨ob,hk c (.head _) ob ho,hp⟩ (ih r nd.2 hm' (fun b hb=>hk b (.tail _ hb)) hV)
theorem NRel.set_cell {m:Str→Option Value} {h h':Heap} {x:Str} {v:Value} {c:Addr} (hc:h'.IsCell c (some v)) {vs:Vars} {M M':Loc} (n:NRel m h vs M) (hs:SetV vs M x (er v) M') (nd:(vs.map (·.1)).Nodup) (nd2:(vs.filterMap (·.2)).Nodup) (hm:(x,some c)∈vs)
  (hk:∀ b∈vs.filterMap (·.2),b≠c→∀ o,h.get? b=some o→h'.get? b=some o):NRel m h' vs M':=by
 generalize hV:er v=V at hs
 induction hs with
 | @head y c' vs V o M =>
  subst hV
  rw [List.map_cons,List.nodup_cons] at nd
  cases n with | cons e r =>
  rcases List.mem_cons.mp hm with q | hm
  ·cases q
   obtain ⟨ob,hob,hd⟩:=hc
   have nd2:=(List.nodup_cons.mp nd2).1
   exact .cons ⟨ob,hob,some v,hd,rfl⟩ (r.same fun b hb=>hk b (.tail _ hb) fun q=>nd2 (q▸hb))
  ·exact absurd (List.mem_map.mpr ⟨_,hm,rfl⟩) nd.1
 | @tail p vs o M y V M' hs ih =>
  rw [List.map_cons,List.nodup_cons] at nd
  cases n with | cons e r =>
  obtain ⟨z,c'⟩:=p
  have hm':(y,some c)∈vs:=by
   rcases List.mem_cons.mp hm with q | hm
   ·cases q
    exact absurd (List.mem_map.mpr ⟨_,(SetV.at hs).choose_spec,rfl⟩) nd.1
   ·exact hm
  cases c' with
  | none=>exact .cons e (ih r nd.2 nd2 hm' hk hV)
  | some c' =>
   have nd2:=List.nodup_cons.mp nd2
   obtain ⟨ob,ho,hp⟩:=e
   exact .cons ⟨ob,hk c' (.head _) (fun q=>nd2.1 (q▸List.mem_filterMap.mpr ⟨_,hm',rfl⟩)) ob ho,hp⟩ (ih r nd.2 nd2.2 hm' (fun b hb=>hk b (.tail _ hb)) hV)
theorem prot_parts (hnd:(prot Φ P).Nodup):Φ.L∉Φ.comp.toList∧Φ.L∉Φ.cells∧Φ.L∉P.map (·.1)∧Φ.cells.Nodup∧(∀ C,Φ.comp=some C→C∉Φ.cells∧C∉P.map (·.1))∧(∀ c∈Φ.cells,c∉P.map (·.1))∧(P.map (·.1)).Nodup:=by
 unfold prot at hnd
 rw [List.nodup_cons,List.nodup_append,List.nodup_append] at hnd
 obtain ⟨h1,h2,⟨h3,h4,h5⟩,h6⟩:=hnd
 simp only [List.mem_append,not_or] at h1
 refine ⟨h1.1,h1.2.1,h1.2.2,h3,fun C hC=>⟨fun q=>?_,fun q=>?_⟩,fun c hc q=>h5 c hc c q rfl,h4⟩
 ·exact h6 C (by simp [hC]) C (List.mem_append.mpr (.inl q)) rfl
 ·exact h6 C (by simp [hC]) C (List.mem_append.mpr (.inr q)) rfl
theorem St.storeName (ok:Φ.Ok n) {s:Shared} {x:Str} {v:Value} {Qf:Unit→Shared→Prop} {E:Value→Shared→Prop} (y:St Φ P M σ s.heap) (hs:SetV Φ.vars M x (er v) M')
  (h:∀ s',Sm s s'→St Φ P M' σ s'.heap→Qf () s'):wpAny (model Φ.prog Φ.w) Φ.A (storeName Φ.env x v) Qf E s:=by
 obtain ⟨c,hc⟩:=hs.at
 obtain ⟨p1,p2,p3,p4,p5,p6,p7⟩:=prot_parts y.nd
 have hvok:=ok.vok _ hc
 obtain ⟨⟨m,F,N⟩,ps,⟨δ,Rr,hb⟩,nd,old,out⟩:=y
 have memL:Φ.L∈prot Φ P:=by simp [prot]
 have memP:∀ p∈P,p.1∈prot Φ P:=fun p hp=>by simp only [prot,List.mem_cons,List.mem_append,List.mem_map]; exact .inr (.inr (.inr ⟨p,hp,rfl⟩))
 have memC:∀ c∈Φ.cells,c∈prot Φ P:=fun c hc=>by simp only [prot,List.mem_cons,List.mem_append]; exact .inr (.inr (.inl hc))
 -- the rest,for a change at one protected address
 have rest:∀ d (h':Heap),d∈prot Φ P→d∉P.map (·.1)→Heap.SameBut d s.heap h'→(∃ m',Fr Φ.base Φ.L h' m'∧Names Φ M' m' h')→St Φ P M' σ h':=fun d h' hd hdP sb fr=>by
  refine ⟨fr,fun p hp=>?_,⟨δ,⟨fun a o e=>(Rr.rel a o e).same fun b hb'=>sb.2 b fun q=>(hb a o e b hb').2 (q▸hd),Rr.sep,Rr.two⟩,hb⟩,nd,old,out⟩
  obtain ⟨o,ho,r⟩:=ps p hp
  exact ⟨o,(sb.2 _ fun q=>hdP (List.mem_map.mpr ⟨p,hp,q⟩)).trans ho,r⟩
 have keepB:∀ d (h':Heap),d∈prot Φ P→Heap.SameBut d s.heap h'→∀ b o,Φ.base.get? b=some o→h'.get? b=some o:=fun d h' hd sb b o e =>
  (sb.2 b fun q=>by rw [q,old d hd] at e; cases e).trans (F.keep b o e)
 cases c with
 | none =>
  have hl:Φ.env.kindOf x=some .local:=lookup_of_mem ok.nms hvok
  unfold Names at N
  cases hcomp:Φ.comp with
  | none =>
   rw [hcomp] at N
   have eL:Φ.env.locals=Φ.L:=by rw [ok.loc,hcomp]; rfl
   refine wpAny_storeName_local hl (by rw [eL]; exact F.ns) (fun h' hn sb=>h _ ⟨rfl,rfl,rfl⟩ ?_) (by rw [ok.kind]; rfl)
   rw [eL] at hn sb
   refine rest Φ.L h' memL p3 sb ⟨_,⟨hn,keepB Φ.L h' memL sb,F.above⟩,?_⟩
   unfold Names
   rw [hcomp]
   exact N.set_local hs ok.vnd hc fun b hb' o e=>(sb.2 b fun q=>p2 (q▸hb')).trans e
  | some C =>
   rw [hcomp] at N
   obtain ⟨em,mc,hnC,N⟩:=N
   have eL:Φ.env.locals=C:=by rw [ok.loc,hcomp]; rfl
   have memCo:C∈prot Φ P:=by simp [prot,hcomp]
   have hCL:Φ.L≠C:=fun q=>p1 (by simp [hcomp,q])
   refine wpAny_storeName_local hl (by rw [eL]; exact hnC) (fun h' hn sb=>h _ ⟨rfl,rfl,rfl⟩ ?_) (by rw [ok.kind]; rfl)
   rw [eL] at hn sb
   refine rest C h' memCo (p5 C hcomp).2 sb ⟨m,⟨F.ns.sameBut sb hCL,keepB C h' memCo sb,F.above⟩,?_⟩
   unfold Names
   rw [hcomp]
   exact ⟨em,_,hn,N.set_local hs ok.vnd hc fun b hb' o e=>(sb.2 b fun q=>(p5 C hcomp).1 (q▸hb')).trans e⟩
 | some c =>
  have hl:Φ.env.kindOf x=some .cell:=lookup_of_mem ok.nms hvok.1
  have hcm:c∈Φ.cells:=List.mem_filterMap.mpr ⟨_,hc,rfl⟩
  have hcL:Φ.L≠c:=fun q=>p2 (q▸hcm)
  have cellAt:∀ {m:Str→Option Value},NRel m s.heap Φ.vars M→∃ v₀,s.heap.IsCell c v₀:=by
   intro m
   have gen:∀ {vs:Vars} {M:Loc},NRel m s.heap vs M→(x,some c)∈vs→∃ v₀,s.heap.IsCell c v₀:=by
    intro vs M n hm
    induction n with
    | nil=>exact nm hm
    | cons e _ ih =>
     rcases List.mem_cons.mp hm with q | hm
     ·subst q
      obtain ⟨ob,hob,v₀,hd,_⟩:=e
      exact ⟨v₀,ob,hob,hd⟩
     ·exact ih hm
   exact fun n=>gen n hc
  unfold Names at N
  cases hcomp:Φ.comp with
  | none =>
   rw [hcomp] at N
   obtain ⟨v₀,hv₀⟩:=cellAt N
   refine wpAny_storeName_cell ok.kind hl hvok.2 hv₀ fun h' hn sb=>h _ ⟨rfl,rfl,rfl⟩ ?_
   refine rest c h' (memC c hcm) (p6 c hcm) sb ⟨m,⟨F.ns.sameBut sb hcL,keepB c h' (memC c hcm) sb,F.above⟩,?_⟩
   unfold Names
   rw [hcomp]
   exact N.set_cell hn hs ok.vnd p4 hc fun b hb' hne o e=>(sb.2 b hne).trans e
  | some C =>
   rw [hcomp] at N
   obtain ⟨em,mc,hnC,N⟩:=N
   obtain ⟨v₀,hv₀⟩:=cellAt N
   have hCc:C≠c:=fun q=>(p5 C hcomp).1 (q▸hcm)
   refine wpAny_storeName_cell ok.kind hl hvok.2 hv₀ fun h' hn sb=>h _ ⟨rfl,rfl,rfl⟩ ?_
   refine rest c h' (memC c hcm) (p6 c hcm) sb ⟨m,⟨F.ns.sameBut sb hcL,keepB c h' (memC c hcm) sb,F.above⟩,?_⟩
   unfold Names
   rw [hcomp]
   exact ⟨em,mc,hnC.sameBut sb hCc,N.set_cell hn hs ok.vnd p4 hc fun b hb' hne o e=>(sb.2 b hne).trans e⟩
end
noncomputable def allNews (base:Heap) (L:Addr) (h:Heap):List (Addr×Obj):=by
 classical
 exact (List.range h.objs.size).filterMap fun b=>if b≠L∧base.get? b=none then (h.get? b).map fun o=>(b,o) else none
theorem allNews_mem {base:Heap} {L:Addr} {h:Heap} {b:Addr} {o:Obj}:(b,o)∈allNews base L h↔h.get? b=some o∧b≠L∧base.get? b=none:=by
 unfold allNews
 simp only [List.mem_filterMap,List.mem_range]
 constructor
 ·rintro ⟨c,hc,e⟩
  split at e
  ·rename_i hh
   obtain ⟨o',ho',e'⟩:=Option.map_eq_some_iff.mp e
   cases e'
   exact ⟨ho',hh.1,hh.2⟩
  ·cases e
 ·rintro ⟨h1,h2,h3⟩
  exact ⟨b,Heap.lt_size h1,by rw [if_pos ⟨h2,h3⟩,h1]; rfl⟩
theorem allNews_nodup {base:Heap} {L:Addr} {h:Heap}:((allNews base L h).map (·.1)).Nodup:=by
 classical
 unfold allNews
 rw [List.Nodup,List.pairwise_map,List.pairwise_filterMap]
 refine List.Pairwise.imp ?_ (List.nodup_range (n:=h.objs.size))
 intro a b hab p hp q hq e
 apply hab
 split at hp
 ·split at hq
  ·obtain ⟨o,_,ep⟩:=Option.map_eq_some_iff.mp hp
   obtain ⟨o',_,eq⟩:=Option.map_eq_some_iff.mp hq
   rw [← ep,← eq] at e
   exact e
  ·cases hq
 ·cases hp
theorem allNews_news {base:Heap} {L:Addr} {h:Heap}:News base L h (allNews base L h):=fun p hp=>by
 obtain ⟨b,o⟩:=p
 exact allNews_mem.mp hp
theorem split_mem {l:List (Addr×Obj)} (nd:(l.map (·.1)).Nodup) {d:Addr} {o:Obj} (hm:(d,o)∈l):∃ pre post,l=pre++(d,o)::post∧(∀ p∈pre,p.1≠d)∧(∀ p∈post,p.1≠d):=by
 obtain ⟨pre,post,rfl⟩:=List.append_of_mem hm
 rw [List.map_append,List.map_cons,List.nodup_append,List.nodup_cons] at nd
 refine ⟨pre,post,rfl,fun p hp=>nd.2.2 p.1 (List.mem_map.mpr ⟨p,hp,rfl⟩) d (.head _),fun p hp q=>nd.2.1.1 (q▸List.mem_map.mpr ⟨p,hp,rfl⟩)⟩
section
variable {Φ:Act} {P:PS} {M:Loc} {σ:Sto} {h h':Heap}
structure Kept (base:Heap) (L:Addr) (m:Str→Option Value) (h h':Heap):Prop where
 fr:Fr base L h' m
 keep:∀ b o,b≠L→h.get? b=some o→h'.get? b=some o
theorem kept_of_news {base:Heap} {L:Addr} {m:Str→Option Value} {news':List (Addr×Obj)} (F':Fr base L h' m) (N':News base L h' news') (hs:∀ p∈allNews base L h,p∈news')
  (F:Fr base L h m):Kept base L m h h':=⟨F',fun b o hb e=>by
 cases q:base.get? b with
 | some o' =>
  have:=F.keep b o' q
  rw [e] at this; cases this
  exact F'.keep b _ q
 | none=>exact (N' _ (hs _ (allNews_mem.mpr ⟨e,hb,q⟩))).1⟩
theorem St.kept (x:St Φ P M σ h) {m:Str→Option Value} (F:Fr Φ.base Φ.L h m) (N:Names Φ M m h) (k:Kept Φ.base Φ.L m h h'):St Φ P M σ h':=by
 obtain ⟨p1,p2,p3,p4,p5,p6,p7⟩:=prot_parts x.nd
 obtain ⟨_,ps,⟨δ,R,hb⟩,nd,old,out⟩:=x
 refine ⟨⟨m,k.fr,?_⟩,fun p hp=>?_,⟨δ,⟨fun a o e=>(R.rel a o e).same fun b hb'=>?_,R.sep,R.two⟩,hb⟩,nd,old,out⟩
 ·have kc:∀ b∈Φ.vars.filterMap (·.2),∀ o,h.get? b=some o→h'.get? b=some o:=fun b hb o e=>k.keep b o (fun q=>p2 (q▸hb)) e
  unfold Names at N ⊢
  cases hcomp:Φ.comp with
  | none=>rw [hcomp] at N; exact N.same kc
  | some C =>
   rw [hcomp] at N
   obtain ⟨em,mc,hn,r⟩:=N
   obtain ⟨o,ho,hp⟩:=of_ns hn
   exact ⟨em,mc,ns_of (k.keep C o (fun q=>p1 (by simp [hcomp,q])) ho) hp,r.same kc⟩
 ·obtain ⟨o,ho,r⟩:=ps p hp
  exact ⟨o,k.keep p.1 o (fun q=>p3 (q▸List.mem_map.mpr ⟨p,hp,rfl⟩)) ho,r⟩
 ·obtain ⟨ob,hob⟩:=(R.rel a o e).some b hb'
  rw [hob]
  exact k.keep b ob (fun q=>(hb a o e b hb').2 (q▸by simp [prot])) hob
theorem St.push (x:St Φ P M σ h) {m:Str→Option Value} (F:Fr Φ.base Φ.L h m) (N:Names Φ M m h) (k:Kept Φ.base Φ.L m h h') {a dx:Addr} {o:O} (hrel:ORel Φ.toCtx h' a dx o)
  (new:∀ b∈fp a dx o,h.get? b=none) (hne:∀ C fs,o=.inst C fs→a≠dx):σ a=none∧St Φ P M (σ.set a o) h':=by
 -- pass through a heap that keeps all: first the store at h,then told anew
 obtain ⟨ob,hob,hns⟩:=of_ns F.ns
 have hL:∀ b∈fp a dx o,b≠Φ.L:=fun b hb q=>by rw [q] at hb; rw [new _ hb] at hob; cases hob
 obtain ⟨obL,hobL,hnsL⟩:=of_ns k.fr.ns
 -- the heap h' with the old frame object
 let h2:=h'.update Φ.L fun _=>ob
 have get2:∀ b,b≠Φ.L→h2.get? b=h'.get? b:=fun b hb=>Heap.get?_update_other h' _ (Ne.symm hb)
 have fob:ob.isFreed=false:=by
  obtain ⟨c,d,dt,sl⟩:=ob
  obtain ⟨es,ep,hd,_⟩:=hns
  dsimp only at hd; subst hd; rfl
 have get2L:h2.get? Φ.L=some ob:=Heap.get?_update_self _ hobL fob
 have x2:=x.alloc (h':=h2) (a:=a) (dx:=dx) (o:=o) (fun b o' e=>by
  by_cases q:b=Φ.L
  ·subst q; rw [get2L]; rw [hob] at e; exact e
  ·rw [get2 b q]; exact k.keep b o' q e) (hrel.same fun b hb=>get2 b (hL b hb)) new hne
 refine ⟨x2.1,?_⟩
 have N2:Names Φ M m h2:=by
  have:=x.kept F N k
  -- the cells and the comprehension's names do not lie at L
  obtain ⟨p1,p2,p3,p4,p5,p6,p7⟩:=prot_parts x.nd
  have kc:∀ b∈Φ.vars.filterMap (·.2),∀ o,h.get? b=some o→h2.get? b=some o:=fun b hb o e=>by
   have hbL:b≠Φ.L:=fun q=>p2 (q▸hb)
   rw [get2 b hbL]; exact k.keep b o hbL e
  unfold Names at N ⊢
  cases hcomp:Φ.comp with
  | none=>rw [hcomp] at N; exact N.same kc
  | some C =>
   rw [hcomp] at N
   obtain ⟨em,mc,hn,r⟩:=N
   obtain ⟨o,ho,hp⟩:=of_ns hn
   have hCL:C≠Φ.L:=fun q=>p1 (by simp [hcomp,q])
   exact ⟨em,mc,ns_of (by rw [get2 C hCL]; exact k.keep C o hCL ho) hp,r.same kc⟩
 have F2:Fr Φ.base Φ.L h2 m:=⟨ns_of get2L (by
  obtain ⟨o3,ho3,hp3⟩:=of_ns F.ns
  rw [hob] at ho3; cases ho3; exact hp3),fun b o' e=>by
   by_cases q:b=Φ.L
   ·subst q; rw [x.old Φ.L (by simp [prot])] at e; cases e
   ·rw [get2 b q]; exact k.fr.keep b o' e,F.above⟩
 exact x2.2.kept F2 N2 ⟨k.fr,fun b o' hb e=>by rw [get2 b hb] at e; exact e⟩
end
section
variable {Φ:Act} {n:Nat} {P:PS} {M M':Loc} {σ:Sto} {Q:KV} {R:KL} {pos:Pos} {k:Nat}
theorem SV.at {s s':Shared} {t:Sem Value} (m:Sm s s') (x:St Φ P M σ s'.heap) (h:SV Φ t M σ Q R):wpAny (model Φ.prog Φ.w) Φ.A t (PE Φ P M s Q) (PX Φ P s R) s' :=
 wpAny_mono (h.1 P s' x) (fun _ _ y=>y.trans m) fun _ _ y=>y.trans m
theorem SBt.at {s s':Shared} {t:Sem Bool} {Q:KB} (m:Sm s s') (x:St Φ P M σ s'.heap) (h:SBt Φ t M σ Q R):wpAny (model Φ.prog Φ.w) Φ.A t (PT Φ P M s Q) (PX Φ P s R) s' :=
 wpAny_mono (h.1 P s' x) (fun _ _ y=>⟨m.trans y.1,y.2⟩) fun _ _ y=>y.trans m
theorem SF.at {s s':Shared} {t:Sem Flow} {Q:KF} (m:Sm s s') (x:St Φ P M σ s'.heap) (h:SF Φ t M σ Q R):wpAny (model Φ.prog Φ.w) Φ.A t (PF Φ P s Q) (PX Φ P s R) s' :=
 wpAny_mono (h.1 P s' x) (fun _ _ y=>⟨m.trans y.1,y.2⟩) fun _ _ y=>y.trans m
theorem SV.then {s s':Shared} {t:Sem Value} {Q₁:KV} {f:Value→Shared→Prop} (m:Sm s s') (x:St Φ P M σ s'.heap) (h:SV Φ t M σ Q₁ R)
  (k:∀ v σ' s₂,Sm s s₂→St Φ P M σ' s₂.heap→Q₁ (er v) σ'→f v s₂):wpAny (model Φ.prog Φ.w) Φ.A t f (PX Φ P s R) s' :=
 wpAny_mono (h.at m x) (fun v s₂ qc=>by obtain ⟨m',σ',a,b⟩:=qc; exact k v σ' s₂ m' a b) fun _ _ y=>y
theorem SBt.then {s s':Shared} {t:Sem Bool} {Q₁:KB} {f:Bool→Shared→Prop} (m:Sm s s') (x:St Φ P M σ s'.heap) (h:SBt Φ t M σ Q₁ R)
  (k:∀ v σ' s₂,Sm s s₂→St Φ P M σ' s₂.heap→Q₁ v σ'→f v s₂):wpAny (model Φ.prog Φ.w) Φ.A t f (PX Φ P s R) s' :=
 wpAny_mono (h.at m x) (fun v s₂ qc=>by obtain ⟨m',σ',a,b⟩:=qc; exact k v σ' s₂ m' a b) fun _ _ y=>y
theorem SE.then {s s':Shared} {e:Expr} {Q₁:KV} {f:Value→Shared→Prop} (m:Sm s s') (x:St Φ P M σ s'.heap) (h:SE Φ e M σ Q₁ R)
  (k:∀ v σ' s₂,Sm s s₂→St Φ P M σ' s₂.heap→Q₁ (er v) σ'→f v s₂):wpAny (model Φ.prog Φ.w) Φ.A (eval e Φ.env) f (PX Φ P s R) s':=h.1.then m x k
theorem ST.then {s s':Shared} {e:Expr} {Q₁:KB} {f:Bool→Shared→Prop} (m:Sm s s') (x:St Φ P M σ s'.heap) (h:ST Φ e M σ Q₁ R)
  (k:∀ v σ' s₂,Sm s s₂→St Φ P M σ' s₂.heap→Q₁ v σ'→f v s₂):wpAny (model Φ.prog Φ.w) Φ.A (isTrue e Φ.env (eval e Φ.env)) f (PX Φ P s R) s':=h.1.then m x k
theorem SE_name (ok:Φ.Ok n) {x:Str} {V:V} (hv:Var Φ.vars M x V) (q:Q V σ):SE Φ (.Name x pos) M σ Q R:=by
 refine .mk <| .mk fun P s y=>?_
 obtain ⟨m,F,N⟩:=y.fr
 have fin:∀ c:Option Addr,∀ m:Str→Option Value,s.heap.Ns Φ.env.locals m→(x,c)∈Φ.vars→(match c with | none=>∃ v,m x=some v∧er v=V | some c=>∃ v,s.heap.IsCell c (some v)∧er v=V) →
   wpAny (model Φ.prog Φ.w) Φ.A (eval (.Name x pos) Φ.env) (PE Φ P M s Q) (PX Φ P s R) s:=by
  intro c m hn hc hv
  have hvok:=ok.vok _ hc
  cases c with
  | none =>
   obtain ⟨v,hm,rfl⟩:=hv
   exact wpAny_Name (wpAny_loadName_local ok.kind (lookup_of_mem ok.nms hvok) hn hm ⟨.refl s,σ,y,q⟩) (ok.dbg _ hvok)
  | some c =>
   obtain ⟨v,hm,rfl⟩:=hv
   exact wpAny_Name (wpAny_loadName_cell ok.kind (lookup_of_mem ok.nms hvok.1) hvok.2 hm ⟨.refl s,σ,y,q⟩) (ok.dbg _ hvok.1)
 unfold Names at N
 cases hcomp:Φ.comp with
 | none =>
  rw [hcomp] at N
  obtain ⟨c,hc,r⟩:=N.var hv
  exact fin c m (by rw [ok.loc,hcomp]; exact F.ns) hc r
 | some C =>
  rw [hcomp] at N
  obtain ⟨em,mc,hnC,N⟩:=N
  obtain ⟨c,hc,r⟩:=N.var hv
  exact fin c mc (by rw [ok.loc,hcomp]; exact hnC) hc r
noncomputable def Glob (c:Ctx) (x:Str) (v:Value):Prop:=nsIn c.K mainGlobals x=some (some v)∨(nsIn c.K mainGlobals x=some none∧bootBuiltins x=some v∧x≠"__name__")
theorem SE_glob (ok:Φ.Ok n) {x:Str} {v:Value} (hx:(x,NameKind.globalImplicit)∈Φ.env.scope.names) (hg:Glob Φ.toCtx x v) (q:Q (er v) σ):SE Φ (.Name x pos) M σ Q R:=by
 refine .mk <| .mk fun P s y=>?_
 obtain ⟨m,F,N⟩:=y.fr
 refine Name_function_global ok.kind (lookup_of_mem ok.nms hx) ?_ (ok.dbg _ hx)
 rcases hg with e | ⟨e,hb,hn⟩
 ·exact loadGlobal_global (by rw [ok.glob]; exact ok.ctx.T.g.keeps F.keep) (mg_of ok.ctx.X ok.ctx.T.g e) ⟨.refl s,σ,y,q⟩
 ·exact loadGlobal_builtin (by rw [ok.glob]; exact ok.ctx.T.g.keeps F.keep) (mg_none_of ok.ctx.X ok.ctx.T.g e) (by rw [ok.blt]; exact ok.ctx.T.b.keeps F.keep) ((ok.ctx.T.builtins x hn).trans hb) ⟨.refl s,σ,y,q⟩
theorem SE_int {i:Int} (q:Q (.int i) σ):SE Φ (.Constant (.int i) k pos) M σ Q R:=.mk <| .mk fun P s y=>wpAny_Constant_int ⟨⟨rfl,rfl,rfl⟩,σ,y,q⟩
theorem SE_none (q:Q .none σ):SE Φ (.Constant .none k pos) M σ Q R:=.mk <| .mk fun P s y=>wpAny_Constant_none ⟨.refl s,σ,y,q⟩
theorem SE_bool {b:Bool} (q:Q (.bool b) σ):SE Φ (.Constant (.bool b) k pos) M σ Q R:=.mk <| .mk fun P s y=>wpAny_Constant_bool ⟨.refl s,σ,y,q⟩
theorem SE_str {x:Str} (q:Q (.str x) σ):SE Φ (.Constant (.str x) k pos) M σ Q R:=.mk <| .mk fun P s y=>wpAny_Constant_str ⟨⟨rfl,rfl,rfl⟩,σ,y,q⟩
noncomputable def bop (op:Operator) (a b:V) (σ:Sto) (Q:KV):Prop:=match op,a,b with
 | .Add,.int a,.int b=>Q (.int (a+b)) σ
 | .Sub,.int a,.int b=>Q (.int (a-b)) σ
 | .Mult,.int a,.int b=>IntMulOk a b∧Q (.int (a*b)) σ
 | .FloorDiv,.int a,.int b=>0 < b∧Q (.int (a / b)) σ
 | .Mod,.int a,.int b=>0 < b∧Q (.int (a%b)) σ
 | .LShift,.int a,.int b=>(0≤b∧b≤1000∧a.natAbs < 2 ^ 64)∧Q (.int (a*2 ^ b.toNat)) σ
 | .BitOr,.int a,.int b=>Q (.int (Builtin.bitOr a b)) σ
 | .Add,.bytes a,.bytes b=>a.size+b.size≤1000∧Q (.bytes (a++b)) σ
 | .Add,.ref a,.ref b=>∃ xs ys,σ a=some (.list xs)∧σ b=some (.list ys)∧xs.length+ys.length≤1000000∧∀ c,σ c=none→Q (.ref c) (σ.set c (.list (xs++ys)))
 | _,_,_=>False
noncomputable def cop (op:CmpOp) (a b:V) (σ:Sto) (Q:KV):Prop:=match op,a,b with
 | .Eq,.int a,.int b=>Q (.bool (decide (a=b))) σ
 | .NotEq,.int a,.int b=>Q (.bool (!decide (a=b))) σ
 | .Lt,.int a,.int b=>Q (.bool (decide (a < b))) σ
 | .LtE,.int a,.int b=>Q (.bool (decide (a≤b))) σ
 | .Gt,.int a,.int b=>Q (.bool (decide (b < a))) σ
 | .GtE,.int a,.int b=>Q (.bool (decide (b≤a))) σ
 | _,_,_=>False
@[reducible] def kB2 (Φ:Act) (op:Operator) (a:V) (M:Loc) (Q:KV) (R:KL):KV:=fun b σ=>∀ av bv,er av=a→er bv=b→SV Φ (binaryOp op av bv) M σ Q R
@[reducible] def kB1 (Φ:Act) (op:Operator) (r:Expr) (M:Loc) (Q:KV) (R:KL):KV:=fun a σ=>SE Φ r M σ (kB2 Φ op a M Q R) R
@[reducible] def kC2 (Φ:Act) (op:CmpOp) (a:V) (M:Loc) (Q:KV) (R:KL):KV:=fun b σ=>∀ av bv,er av=a→er bv=b→SV Φ (compareOp op av bv) M σ Q R
@[reducible] def kC1 (Φ:Act) (op:CmpOp) (r:Expr) (M:Loc) (Q:KV) (R:KL):KV:=fun a σ=>SE Φ r M σ (kC2 Φ op a M Q R) R
inductive kBV (Q:KB) (v:V) (σ:Sto):Prop
 | mk (b:Bool) (h:v=.bool b) (q:Q b σ)
inductive kNeg (Q:KV) (v:V) (σ:Sto):Prop
 | mk (a:Int) (h:v=.int a) (q:Q (.int (-a)) σ)
@[reducible] def kNotB (Q:KV):KB:=fun b σ=>Q (.bool (!b)) σ
@[reducible] def kNot (Q:KB):KB:=fun b σ=>Q (!b) σ
theorem SE_bin {op:Operator} {l r:Expr} (hl:SE Φ l M σ (kB1 Φ op r M Q R) R):SE Φ (.BinOp l op r pos) M σ Q R:=.mk <| .mk fun P s y =>
 wpAny_BinOp (hl.then (.refl s) y fun av σ₁ s₁ m₁ y₁ h₁=>h₁.then m₁ y₁ fun bv σ₂ s₂ m₂ y₂ h₂=>(h₂ av bv rfl rfl).at m₂ y₂)
theorem SE_cmp {op:CmpOp} {l r:Expr} (hm:behindInMarks op r=false) (hl:SE Φ l M σ (kC1 Φ op r M Q R) R):SE Φ (.Compare l [op] [r] pos) M σ Q R:=.mk <| .mk fun P s y =>
 wpAny_Compare1 (hl.then (.refl s) y fun av σ₁ s₁ m₁ y₁ h₁=>h₁.then m₁ y₁ fun bv σ₂ s₂ m₂ y₂ h₂=>(h₂ av bv rfl rfl).at m₂ y₂) hm
theorem er_int {v:Value} {i:Int} (h:er v=.int i):∃ t,v=.int i t:=by cases v <;> cases h; exact ⟨_,rfl⟩
theorem er_bool {v:Value} {i:Bool} (h:er v=.bool i):v=.bool i:=by cases v <;> cases h; rfl
theorem er_ref {v:Value} {i:Addr} (h:er v=.ref i):v=.ref i:=by cases v <;> cases h; rfl
theorem er_none {v:Value} (h:er v=.none):v=.none:=by cases v <;> cases h; rfl
theorem er_bytes {v:Value} {i:Array UInt8} (h:er v=.bytes i):∃ t,v=.bytes i t:=by cases v <;> cases h; exact ⟨_,rfl⟩
theorem beq_dec (a b:Int):(a == b)=decide (a=b):=rfl
theorem bne_dec (a b:Int):(a != b)=!decide (a=b):=rfl
theorem cop_int {op:CmpOp} {a b:Int} (h:cop op (.int a) (.int b) σ Q):∀ av bv,er av=.int a→er bv=.int b→SV Φ (compareOp op av bv) M σ Q R:=by
 intro av bv ea eb
 refine .mk fun P s y=>?_
 obtain ⟨t,rfl⟩:=er_int ea
 obtain ⟨u,rfl⟩:=er_int eb
 cases op <;> first | exact h.elim | skip
 ·exact PySem.P.eq_int ⟨.refl s,σ,y,beq_dec a b▸h⟩
 ·exact PySem.P.ne_int ⟨.refl s,σ,y,bne_dec a b▸h⟩
 ·exact PySem.P.lt_int ⟨.refl s,σ,y,h⟩
 ·exact PySem.P.le_int ⟨.refl s,σ,y,h⟩
 ·exact PySem.P.gt_int ⟨.refl s,σ,y,h⟩
 ·exact PySem.P.ge_int ⟨.refl s,σ,y,h⟩
theorem fdiv_pos {a b:Int} (h:0 < b):Int.fdiv a b=a / b:=by
 rw [Int.fdiv_eq_ediv_of_nonneg _ (Int.le_of_lt h)]
theorem fmod_pos {a b:Int} (h:0 < b):Int.fmod a b=a%b:=by
 rw [Int.fmod_eq_emod_of_nonneg _ (Int.le_of_lt h)]
theorem bop_int {op:Operator} {a b:Int} (h:bop op (.int a) (.int b) σ Q) (hb:op=.FloorDiv→b.natAbs < 1073741824):∀ av bv,er av=.int a→er bv=.int b→SV Φ (binaryOp op av bv) M σ Q R:=by
 intro av bv ea eb
 refine .mk fun P s y=>?_
 obtain ⟨t,rfl⟩:=er_int ea
 obtain ⟨u,rfl⟩:=er_int eb
 cases op <;> first | exact h.elim | skip
 ·exact PySem.P.add_int ⟨⟨rfl,rfl,rfl⟩,σ,y,h⟩
 ·exact PySem.P.sub_int ⟨⟨rfl,rfl,rfl⟩,σ,y,h⟩
 ·exact PySem.P.mul_int ⟨⟨rfl,rfl,rfl⟩,σ,y,h.2⟩ h.1
 ·have h1:0 < b:=h.1
  exact mod_int' (by (revert h1; lia)) ⟨⟨rfl,rfl,rfl⟩,σ,y,by rw [fmod_pos h1]; exact h.2⟩
 ·exact lshift_int_small h.1.1 (by have:=h.1.2.1; (revert this; lia)) h.1.2.2 ⟨⟨rfl,rfl,rfl⟩,σ,y,h.2⟩
 ·exact or_int ⟨⟨rfl,rfl,rfl⟩,σ,y,h⟩
 ·have h1:0 < b:=h.1
  exact floordiv_int (by (revert h1; lia)) ⟨⟨rfl,rfl,rfl⟩,σ,y,by rw [fdiv_pos h1]; exact h.2⟩ (.inl (PyProof.noPylong_small (hb rfl)))
theorem bop_pow {a b:Int} (h0:0≤b) (h1:b≤1000) (ha:a.natAbs < 2 ^ 64) (q:Q (.int (a ^ b.toNat)) σ):∀ av bv,er av=.int a→er bv=.int b→SV Φ (binaryOp .Pow av bv) M σ Q R:=by
 intro av bv ea eb
 refine .mk fun P s y=>?_
 obtain ⟨t,rfl⟩:=er_int ea
 obtain ⟨u,rfl⟩:=er_int eb
 exact pow_int_small h0 (by (revert h0 h1; lia)) ha ⟨⟨rfl,rfl,rfl⟩,σ,y,q⟩
theorem bop_bytes {a b:Array UInt8} (h:bop .Add (.bytes a) (.bytes b) σ Q):∀ av bv,er av=.bytes a→er bv=.bytes b→SV Φ (binaryOp .Add av bv) M σ Q R:=by
 intro av bv ea eb
 refine .mk fun P s y=>?_
 obtain ⟨t,rfl⟩:=er_bytes ea
 obtain ⟨u,rfl⟩:=er_bytes eb
 exact PySem.W.KBy.add_bytes (by have:=h.1; (revert this; lia)) fun t' k=>⟨⟨rfl,rfl,rfl⟩,σ,y,h.2⟩
theorem St.list {h:Heap} {l:Addr} {vs:List V} (y:St Φ P M σ h) (e:σ l=some (.list vs)):∃ items:List Value,h.IsList l items.toArray∧items.map er=vs:=by
 obtain ⟨dx,⟨items,n,ho,r⟩,_⟩:=y.acc e; exact ⟨items,⟨_,ho,rfl,n,rfl⟩,r⟩
theorem St.tuple {h:Heap} {l:Addr} {vs:List V} (y:St Φ P M σ h) (e:σ l=some (.tuple vs)):∃ items:List Value,IsTup h l items.toArray∧items.map er=vs:=by
 obtain ⟨dx,x,_⟩:=y.acc e; exact x
theorem none_size {s:Shared} {b:Addr} (h:s.heap.objs.size≤b):s.heap.get? b=none:=by
 cases e:s.heap.get? b with
 | none=>rfl
 | some o=>exact absurd (Heap.lt_size e) (Nat.not_lt.mpr h)
theorem bop_lists {a b:Addr} (h:bop .Add (.ref a) (.ref b) σ Q):∀ av bv,er av=.ref a→er bv=.ref b→SV Φ (binaryOp .Add av bv) M σ Q R:=by
 intro av bv ea eb
 refine .mk fun P s y=>?_
 obtain rfl:=er_ref ea
 obtain rfl:=er_ref eb
 obtain ⟨xs,ys,h1,h2,hl,q⟩:=h
 obtain ⟨i1,l1,rfl⟩:=y.list h1
 obtain ⟨i2,l2,rfl⟩:=y.list h2
 obtain ⟨m,F,N⟩:=y.fr
 simp only [List.length_map] at hl
 refine add_arrays F allNews_news l1 l2 (fun h' F' N'=>?_) (by rw [sizeLine_eq]; simp; (revert hl; lia))
 have k:=kept_of_news F' N' (fun p hp=>List.mem_cons_of_mem _ hp) F
 have z:=y.push F N k (a:=s.heap.objs.size) (dx:=0) (o:=.list (i1.map er++i2.map er)) ⟨i1++i2,0,(N' _ (.head _)).1,by simp⟩ (fun b hb=>by simp [fp] at hb; subst hb; exact none_size (Nat.le_refl _)) (fun C fs e=>by cases e)
 exact ⟨⟨rfl,rfl,rfl⟩,_,z.2,q _ z.1⟩
theorem SE_neg {e:Expr} (h:SE Φ e M σ (kNeg Q) R):SE Φ (.UnaryOp .USub e pos) M σ Q R:=.mk <| .mk fun P s y =>
 wpAny_UnaryOp (h.then (.refl s) y fun v σ₁ s₁ m₁ y₁ qf=>by
  obtain ⟨a,ea,q⟩:=qf
  obtain ⟨t,rfl⟩:=er_int ea
  exact PySem.P.neg_int ⟨m₁.trans ⟨rfl,rfl,rfl⟩,σ₁,y₁,q⟩)
theorem ST_val {e:Expr} (he:isTrue e Φ.env (eval e Φ.env)=(do let v ← eval e Φ.env; standAt e.pos; holding [v] (truthy v))) {Q:KB} (h:SE Φ e M σ (kBV Q) R):ST Φ e M σ Q R:=.mk <| .mk fun P s y =>
 wpAny_isTrue_value (h.then (.refl s) y fun v σ₁ s₁ m₁ y₁ qf=>by
  obtain ⟨a,ea,q⟩:=qf
  obtain rfl:=er_bool ea
  exact wpAny_truthy_bool ⟨m₁,σ₁,y₁,q⟩) he
theorem ST_not {e:Expr} {Q:KB} (h:ST Φ e M σ (kNot Q) R):ST Φ (.UnaryOp .Not e pos) M σ Q R:=.mk <| .mk fun P s y =>
 wpAny_isTrue_Not (h.then (.refl s) y fun v σ₁ s₁ m₁ y₁ q=>⟨m₁,σ₁,y₁,q⟩)
theorem SE_not {e:Expr} (h:SE Φ e M σ (kBV (kNotB Q)) R):SE Φ (.UnaryOp .Not e pos) M σ Q R:=.mk <| .mk fun P s y =>
 wpAny_UnaryOp (h.then (.refl s) y fun v σ₁ s₁ m₁ y₁ qf=>by
  obtain ⟨a,ea,q⟩:=qf
  obtain rfl:=er_bool ea
  exact not_of (wpAny_truthy_bool ⟨m₁,σ₁,y₁,q⟩))
theorem ST_cmp {op:CmpOp} {l r:Expr} {Q:KB} (hm:behindInMarks op r=false) (hl:SE Φ l M σ (kC1 Φ op r M (kBV Q) R) R) :
  ST Φ (.Compare l [op] [r] pos) M σ Q R:=.mk <| .mk fun P s y =>
 wpAny_isTrue_Compare1 (hl.then (.refl s) y fun av σ₁ s₁ m₁ y₁ h₁=>h₁.then m₁ y₁ fun bv σ₂ s₂ m₂ y₂ h₂=>SV.then m₂ y₂ (h₂ av bv rfl rfl) fun v σ₃ s₃ m₃ y₃ qf=>by
  obtain ⟨b,eb,q⟩:=qf
  obtain rfl:=er_bool eb
  exact wpAny_truthy_bool ⟨m₃,σ₃,y₃,q⟩) hm
structure SAll (Φ:Act) (op:BoolOp) (es:List Expr) (M:Loc) (σ:Sto) (Q:KB) (R:KL):Prop where
 to:SBt Φ (allTrue op es Φ.env) M σ Q R
theorem ST_boolop {op:BoolOp} {es:List Expr} {Q:KB} (h:SAll Φ op es M σ Q R):ST Φ (.BoolOp op es pos) M σ Q R:=.mk <| .mk fun P s y=>wpAny_isTrue_BoolOp (h.1.1 P s y)
theorem SAll_and_nil {Q:KB} (q:Q true σ):SAll Φ .And [] M σ Q R:=.mk <| .mk fun P s y=>wpAny_allTrue_And_nil ⟨.refl s,σ,y,q⟩
theorem SAll_or_nil {Q:KB} (q:Q false σ):SAll Φ .Or [] M σ Q R:=.mk <| .mk fun P s y=>wpAny_allTrue_Or_nil ⟨.refl s,σ,y,q⟩
@[reducible] def kAnd (Φ:Act) (es:List Expr) (M:Loc) (Q:KB) (R:KL):KB:=fun b σ'=>if b then SAll Φ .And es M σ' Q R else Q false σ'
@[reducible] def kOr (Φ:Act) (es:List Expr) (M:Loc) (Q:KB) (R:KL):KB:=fun b σ'=>if b then Q true σ' else SAll Φ .Or es M σ' Q R
theorem SAll_and {e:Expr} {es:List Expr} {Q:KB} (h:ST Φ e M σ (kAnd Φ es M Q R) R):SAll Φ .And (e::es) M σ Q R:=.mk <| .mk fun P s y =>
 wpAny_allTrue_And_cons (h.then (.refl s) y fun b σ₁ s₁ m₁ y₁ q=>by
  cases b
  ·exact ⟨m₁,σ₁,y₁,q⟩
  ·exact SBt.at m₁ y₁ q.1)
theorem SAll_or {e:Expr} {es:List Expr} {Q:KB} (h:ST Φ e M σ (kOr Φ es M Q R) R):SAll Φ .Or (e::es) M σ Q R:=.mk <| .mk fun P s y =>
 wpAny_allTrue_Or_cons (h.then (.refl s) y fun b σ₁ s₁ m₁ y₁ q=>by
  cases b
  ·exact SBt.at m₁ y₁ q.1
  ·exact ⟨m₁,σ₁,y₁,q⟩)
structure SBo (Φ:Act) (pos:Pos) (op:BoolOp) (es:List Expr) (M:Loc) (σ:Sto) (Q:KV) (R:KL):Prop where
 to:SV Φ (boolOp pos op (evalEach es Φ.env)) M σ Q R
theorem SE_boolop {op:BoolOp} {es:List Expr} (h:SBo Φ pos op es M σ Q R):SE Φ (.BoolOp op es pos) M σ Q R:=.mk <| .mk fun P s y=>h.1.1 P s y
theorem SBo_one {op:BoolOp} {e:Expr} (h:SE Φ e M σ Q R):SBo Φ pos op [e] M σ Q R:=.mk <| .mk fun P s y=>h.1.1 P s y
@[reducible] def kBoA (Φ:Act) (pos:Pos) (es:List Expr) (M:Loc) (Q:KV) (R:KL):KB:=fun b σ'=>if b then SBo Φ pos .And es M σ' Q R else Q (.bool false) σ'
@[reducible] def kBoO (Φ:Act) (pos:Pos) (es:List Expr) (M:Loc) (Q:KV) (R:KL):KB:=fun b σ'=>if b then Q (.bool true) σ' else SBo Φ pos .Or es M σ' Q R
theorem SBo_and {e e':Expr} {es:List Expr} (h:SE Φ e M σ (kBV (kBoA Φ pos (e'::es) M Q R)) R):SBo Φ pos .And (e::e'::es) M σ Q R:=by
 refine .mk <| .mk fun P s y=>?_
 show wpAny _ _ (do
  let v ← eval e Φ.env
  standAt pos
  let t ← holding [v] (truthy v)
  match BoolOp.And,t with
  | .And,false | .Or,true=>pure v
  | _,_=>boolOp pos .And (evalEach (e'::es) Φ.env)) _ _ s
 refine wpAny_bind (h.then (.refl s) y fun v σ₁ s₁ m₁ y₁ x=>wpAny_bind (wpAny_standAt (wpAny_bind (wpAny_holding ?_))))
 obtain ⟨b,eb,q⟩:=x
 obtain rfl:=er_bool eb
 refine wpAny_truthy_bool ?_
 cases b
 ·exact wpAny_pure ⟨m₁,σ₁,y₁,q⟩
 ·exact SV.at m₁ y₁ q.1
theorem SBo_or {e e':Expr} {es:List Expr} (h:SE Φ e M σ (kBV (kBoO Φ pos (e'::es) M Q R)) R):SBo Φ pos .Or (e::e'::es) M σ Q R:=by
 refine .mk <| .mk fun P s y=>?_
 show wpAny _ _ (do
  let v ← eval e Φ.env
  standAt pos
  let t ← holding [v] (truthy v)
  match BoolOp.Or,t with
  | .And,false | .Or,true=>pure v
  | _,_=>boolOp pos .Or (evalEach (e'::es) Φ.env)) _ _ s
 refine wpAny_bind (h.then (.refl s) y fun v σ₁ s₁ m₁ y₁ x=>wpAny_bind (wpAny_standAt (wpAny_bind (wpAny_holding ?_))))
 obtain ⟨b,eb,q⟩:=x
 obtain rfl:=er_bool eb
 refine wpAny_truthy_bool ?_
 cases b
 ·exact SV.at m₁ y₁ q.1
 ·exact wpAny_pure ⟨m₁,σ₁,y₁,q⟩
@[reducible] def kIfE (Φ:Act) (b o:Expr) (M:Loc) (Q:KV) (R:KL):KB:=fun c σ'=>if c then SE Φ b M σ' Q R else SE Φ o M σ' Q R
theorem SE_ifexp {t b o:Expr} (h:ST Φ t M σ (kIfE Φ b o M Q R) R):SE Φ (.IfExp t b o pos) M σ Q R:=.mk <| .mk fun P s y =>
 wpAny_IfExp (h.then (.refl s) y fun c σ₁ s₁ m₁ y₁ q=>by
  cases c
  ·exact SV.at m₁ y₁ q.1
  ·exact SV.at m₁ y₁ q.1)
variable {F:KF}
theorem SS_nil (q:F .next M σ):SS Φ [] M σ F R:=.mk <| .mk fun P s y=>wpAny_execs_nil ⟨.refl s,M,σ,y,q⟩
@[reducible] def kSS (Φ:Act) (ss:List Stmt) (F:KF) (R:KL):KF:=fun f M' σ'=>match f with | .next=>SS Φ ss M' σ' F R | f=>F f M' σ'
@[reducible] def kRet (F:KF) (M:Loc):KV:=fun v σ=>F (.ret v) M σ
@[reducible] def kIf (Φ:Act) (b o:List Stmt) (M:Loc) (F:KF) (R:KL):KB:=fun c σ'=>if c then SS Φ b M σ' F R else SS Φ o M σ' F R
inductive kAs (vs:Vars) (M:Loc) (x:Str) (F:KF) (v:V) (σ:Sto):Prop
 | mk (M':Loc) (h:SetV vs M x v M') (q:F .next M' σ)
theorem SS_cons {st:Stmt} {ss:List Stmt} (h:SX Φ st M σ (kSS Φ ss F R) R):SS Φ (st::ss) M σ F R:=.mk <| .mk fun P s y =>
 wpAny_execs_cons (wpAny_mono (h.1.1 P s y) (fun f s₁ qc=>by
  obtain ⟨m₁,M₁,σ₁,y₁,q⟩:=qc
  cases f with
  | next=>exact SF.at m₁ y₁ q.1
  | cont=>exact ⟨m₁,M₁,σ₁,y₁,q⟩
  | ret v=>exact ⟨m₁,M₁,σ₁,y₁,q⟩
  | brk=>exact q.elim) fun _ _ x=>x)
theorem SX_ret {e:Expr} (h:SE Φ e M σ (kRet F M) R):SX Φ (.Return (some e) pos) M σ F R:=.mk <| .mk fun P s y =>
 wpAny_Return_some (h.then (.refl s) y fun v σ₁ s₁ m₁ y₁ q=>⟨m₁,M,σ₁,y₁,q⟩)
theorem SX_if {t:Expr} {b o:List Stmt} (h:ST Φ t M σ (kIf Φ b o M F R) R):SX Φ (.If t b o pos) M σ F R:=.mk <| .mk fun P s y =>
 wpAny_If (h.then (.refl s) y fun c σ₁ s₁ m₁ y₁ q=>by
  cases c
  ·exact SF.at m₁ y₁ q.1
  ·exact SF.at m₁ y₁ q.1)
theorem SX_assign (ok:Φ.Ok n) {x:Str} {e:Expr} {pos':Pos} (hs:swapsWith e (some (.Name x pos')) pos.line Φ.env=pure false) (h:SE Φ e M σ (kAs Φ.vars M x F) R):SX Φ (.Assign [.Name x pos'] e pos) M σ F R:=.mk <| .mk fun P s y =>
 wpAny_Assign_Name (h.then (.refl s) y fun v σ₁ s₁ m₁ y₁ qf=>by obtain ⟨M',hset,q⟩:=qf; exact y₁.storeName ok hset fun s₂ m₂ y₂=>⟨m₁.trans m₂,M',σ₁,y₂,q⟩) hs
theorem SX_cont (q:F .cont M σ):SX Φ (.Continue pos) M σ F R:=.mk <| .mk fun P s y=>wpAny_Continue ⟨.refl s,M,σ,y,q⟩
end
noncomputable def CR (Φ:Act) (P:PS) (M:Loc) (s:Shared) (Q:KV) (R:Sto→Prop) (r:Result) (s':Shared):Prop:=match r with
 | .ok (.ret v)=>PE Φ P M s Q v s'
 | .ok _=>False
 | .error e=>PX Φ P s (fun M' σ'=>M'=M∧R σ') e s'
structure Call (c:Ctx) (n:Nat) (f:Value) (Vs:List V) (σ:Sto) (Q:KV) (R:Sto→Prop):Prop where
 to:∀ Φ:Act,Φ.toCtx=c→Φ.Ok n→∀ P M vals s,vals.map er=Vs→St Φ P M σ s.heap→codeAny (model c.prog c.w) Φ.A (.call f ⟨vals,[]⟩) (CR Φ P M s Q R) s
section
variable {Φ:Act} {n:Nat} {P:PS} {M M':Loc} {σ:Sto} {h h':Heap}
noncomputable def belowPS (Φ:Act) (P:PS) (m:Str→Option Value) (h:Heap):PS :=
 (Φ.L,NsP m)::(Φ.comp.toList.map (fun C=>(C,fun o=>h.get? C=some o))++(Φ.cells.map (fun c=>(c,fun o=>h.get? c=some o))++P))
theorem belowPS_keys {m:Str→Option Value}:(belowPS Φ P m h).map (·.1)=prot Φ P:=by
 simp only [belowPS,prot,List.map_cons,List.map_append,List.map_map]
 rw [show ((fun x:Addr×(Obj→Prop)=>x.1) ∘ fun C=>(C,fun o=>h.get? C=some o))=id from rfl,List.map_id,List.map_id]
noncomputable def callee (Φ:Act) (env':Env) (L':Addr) (vars':Vars):Act :=
 { toCtx:=Φ.toCtx,A:=Φ.A.deeper env',env:=env',L:=L',fenv:=env',outer:=Φ.fenv::Φ.outer,comp:=none,vars:=vars',mf:=fun _=>none }
theorem St.back {Φ':Act} {m:Str→Option Value} {M':Loc} {σ':Sto} {h₀:Heap} (hc:Φ'.toCtx=Φ.toCtx) (x:St Φ P M σ h₀) (F:Fr Φ.base Φ.L h₀ m) (N:Names Φ M m h₀)
  (y:St Φ' (belowPS Φ P m h₀) M' σ' h'):St Φ P M σ' h':=by
 have hkeys:∀ b∈prot Φ P,b∈prot Φ' (belowPS Φ P m h₀):=fun b hb=>by
  have:b∈(belowPS Φ P m h₀).map (·.1):=by rw [belowPS_keys]; exact hb
  simp only [prot,List.mem_cons,List.mem_append]
  exact .inr (.inr (.inr this))
 obtain ⟨⟨m',F',N'⟩,ps,⟨δ,R,hb⟩,nd,old,out⟩:=y
 have hbase:Φ'.base=Φ.base:=by rw [hc]
 have F2:Fr Φ.base Φ.L h' m:=by
  obtain ⟨o,ho,hp⟩:=ps (Φ.L,NsP m) (.head _)
  exact ⟨ns_of ho hp,fun b o e=>F'.keep b o (by rw [hbase]; exact e),F.above⟩
 refine ⟨⟨m,F2,?_⟩,fun p hp=>ps p (List.mem_cons_of_mem _ (List.mem_append.mpr (.inr (List.mem_append.mpr (.inr hp))))),⟨δ,by rw [← hc]; exact R,fun a o e b hb'=>?_⟩,x.nd,x.old,x.out⟩
 ·have kc:∀ b∈Φ.vars.filterMap (·.2),∀ o,h₀.get? b=some o→h'.get? b=some o:=fun b hb o e=>by
   obtain ⟨o',ho',hp'⟩:=ps (b,fun o=>h₀.get? b=some o) (List.mem_cons_of_mem _ (List.mem_append.mpr (.inr (List.mem_append.mpr (.inl (List.mem_map.mpr ⟨b,hb,rfl⟩))))))
   have e2:h₀.get? b=some o':=hp'
   rw [e] at e2; cases e2
   exact ho'
  unfold Names at N ⊢
  cases hcomp:Φ.comp with
  | none=>rw [hcomp] at N; exact N.same kc
  | some C =>
   rw [hcomp] at N
   obtain ⟨em,mc,hn,r⟩:=N
   obtain ⟨o,ho,hp⟩:=of_ns hn
   obtain ⟨o',ho',hp'⟩:=ps (C,fun o=>h₀.get? C=some o) (List.mem_cons_of_mem _ (List.mem_append.mpr (.inl (List.mem_map.mpr ⟨C,by simp [hcomp],rfl⟩))))
   have e2:h₀.get? C=some o':=hp'
   rw [ho] at e2; cases e2
   exact ⟨em,mc,ns_of ho' hp,r.same kc⟩
 ·obtain ⟨h1,h2⟩:=hb a o e b hb'
  exact ⟨by rw [← hbase]; exact h1,fun q=>h2 (hkeys b q)⟩
theorem St.funFrames (ok:Φ.Ok n) (y:St Φ P M σ h):h.FunFrames Φ.base (Φ.fenv::Φ.outer):=by
 obtain ⟨m,F,N⟩:=y.fr
 have gen:∀ l:List Env,(∀ env∈l,env.scope.kind≠.module∧∃ L,env.frame=some L∧Φ.base.get? L=none∧∃ m,h.Ns L m)→h.FunFrames Φ.base l:=by
  intro l
  induction l with
  | nil=>intro _; trivial
  | cons env l ih =>
   intro hl
   obtain ⟨hk,L,hf,hn,m,hns⟩:=hl env (.head _)
   exact .cons hk hf hns hn (ih fun e he=>hl e (.tail _ he))
 refine gen _ fun env he=>?_
 rcases List.mem_cons.mp he with rfl | he
 ·exact ⟨by rw [ok.fk]; decide,Φ.L,ok.ff,y.old _ (by simp [prot]),m,F.ns⟩
 ·obtain ⟨hk,L,hf,mm,hm⟩:=y.out env he
  obtain ⟨o,ho,hp⟩:=y.ps _ hm
  exact ⟨hk,L,hf,y.old _ (by simp only [prot,List.mem_cons,List.mem_append,List.mem_map]; exact .inr (.inr (.inr ⟨_,hm,rfl⟩))),mm,ns_of ho hp⟩
theorem frames_prot (ok:Φ.Ok n) (y:St Φ P M σ h) {b:Addr} (hb:b∈frames Φ):b=Φ.L∨∃ m,(b,NsP m)∈P:=by
 obtain ⟨env,he,hf⟩:=List.mem_filterMap.mp hb
 rcases List.mem_cons.mp he with rfl | he
 ·rw [ok.ff] at hf; exact .inl (Option.some.inj hf).symm
 ·obtain ⟨hk,L,hf',m,hm⟩:=y.out env he
  rw [hf] at hf'; cases hf'
  exact .inr ⟨m,hm⟩
theorem ps_unique {P:PS} (nd:(P.map (·.1)).Nodup) {p q:Addr×(Obj→Prop)} (hp:p∈P) (hq:q∈P) (e:p.1=q.1):p=q:=by
 induction P with
 | nil=>cases hp
 | cons r P ih =>
  rw [List.map_cons,List.nodup_cons] at nd
  rcases List.mem_cons.mp hp with ep | hp2
  ·rcases List.mem_cons.mp hq with eq | hq2
   ·rw [ep,eq]
   ·exact absurd (List.mem_map.mpr ⟨q,hq2,by rw [← e,ep]⟩) nd.1
  ·rcases List.mem_cons.mp hq with eq | hq2
   ·exact absurd (List.mem_map.mpr ⟨p,hp2,by rw [e,eq]⟩) nd.1
   ·exact ih nd.2 hp2 hq2
theorem St.slots (ok:Φ.Ok n) (y:St Φ P M σ h) (k:∀ b o,h.get? b=some o→b∉frames Φ→h'.get? b=some o) (u:h.UpToSlots h'):St Φ P M σ h':=by
 obtain ⟨p1,p2,p3,p4,p5,p6,p7⟩:=prot_parts y.nd
 have fp':=fun b hb=>frames_prot ok y (b:=b) hb
 obtain ⟨⟨m,F,N⟩,ps,⟨δ,R,hb⟩,nd,old,out⟩:=y
 have prot_of:∀ b∈frames Φ,b∈prot Φ P:=fun b hb'=>by
  rcases fp' b hb' with rfl | ⟨m,hm⟩
  ·simp [prot]
  ·simp only [prot,List.mem_cons,List.mem_append,List.mem_map]; exact .inr (.inr (.inr ⟨_,hm,rfl⟩))
 have notcell:∀ b∈Φ.cells,b∉frames Φ:=fun b hb' q=>by
  rcases fp' b q with rfl | ⟨m,hm⟩
  ·exact p2 hb'
  ·exact p6 b hb' (List.mem_map.mpr ⟨_,hm,rfl⟩)
 refine ⟨⟨m,⟨u.ns F.ns,fun b o e=>k b o (F.keep b o e) (fun q=>by rw [old b (prot_of b q)] at e; cases e),F.above⟩,?_⟩,fun p hp=>?_,⟨δ,⟨fun a o e=>(R.rel a o e).same fun b hb'=>?_,R.sep,R.two⟩,hb⟩,nd,old,out⟩
 ·have kc:∀ b∈Φ.vars.filterMap (·.2),∀ o,h.get? b=some o→h'.get? b=some o:=fun b hb o e=>k b o e (notcell b hb)
  unfold Names at N ⊢
  cases hcomp:Φ.comp with
  | none=>rw [hcomp] at N; exact N.same kc
  | some C =>
   rw [hcomp] at N
   obtain ⟨em,mc,hn,r⟩:=N
   exact ⟨em,mc,u.ns hn,r.same kc⟩
 ·obtain ⟨o,ho,r⟩:=ps p hp
  by_cases q:p.1∈frames Φ
  ·rcases fp' _ q with e | ⟨m',hm⟩
   ·exact absurd (List.mem_map.mpr ⟨p,hp,e⟩) p3
   ·have:=ps_unique p7 hp hm rfl
    obtain ⟨p1',p2'⟩:=p
    cases this
    obtain ⟨es,ep,hd,r2⟩:=r
    obtain ⟨sl,hs⟩:=u _ o ho fun vs q=>by rw [hd] at q; cases q
    exact ⟨_,hs,es,ep,hd,r2⟩
  ·exact ⟨o,k p.1 o ho q,r⟩
 ·obtain ⟨ob,hob⟩:=(R.rel a o e).some b hb'
  rw [hob]
  exact k b ob hob fun q=>(hb a o e b hb').2 (prot_of b q)
theorem wpAny_setFlight_someW {M:Model} {A:Around} {E:Value→Shared→Prop} {s:Shared} {base:Heap} {l:List Env} {e L:Addr} {cls a0 fl:Value} {Q:Unit→Shared→Prop}
  (hkb:base.StaysIn s.heap) (hl:s.heap.FunFrames base l) (ht:s.heap.TracedAtW base e cls a0 fl)
  (h:∀ h',base.StaysIn h'→h'.FunFrames base l→h'.TracedAtW base e cls a0 (rawInt L)→(∀ b o,s.heap.get? b=some o→(∀ vs,o.data≠.fields vs)→h'.get? b=some o)→Q () { s with heap:=h' }) :
  wpAny M A (setFlight (.ref e) (some L)) Q E s:=by
 obtain ⟨oe,vs,T,oT,ts,he,hcls,hd,h1,hnT,hTe,hT,hdT,h3⟩:=ht
 have hsz3:3 < ts.size:=(Array.getElem?_eq_some_iff.mp h3).1
 have other:∀ b,b≠T→(s.heap.update T (Obj.mapFields (·.setIfInBounds 3 ((some L:Option Addr).elim Value.none fun f=>rawInt f)))).get? b=s.heap.get? b :=
  fun b hb=>Heap.get?_update_other _ _ (Ne.symm hb)
 have noRecord:∀ b o,s.heap.get? b=some o→(∀ vs,o.data≠.fields vs)→b≠T:=fun b o hb hnf q=>by
  rw [q,hT] at hb; injection hb with hb; subst hb; exact hnf ts hdT
 unfold setFlight
 refine wpAny_bind (wpAny_field he hd h1 ?_)
 rw [if_pos (show (Value.ref T != Value.none)=true from by simp)]
 refine wpAny_setField hT hdT hsz3 (h _ (fun b o hbo=>(other b fun q=>by rw [q,hnT] at hbo; cases hbo).trans (hkb b o hbo))
  (hl.of_keeps fun b o hb hnf=>⟨o,(other b (noRecord b o hb hnf)).trans hb,rfl⟩) ?_ fun b o hb hnf=>(other b (noRecord b o hb hnf)).trans hb)
 exact ⟨oe,vs,T,_,_,(other e (Ne.symm hTe)).trans he,hcls,hd,h1,hnT,hTe,Heap.get?_update_self _ hT (Obj.isFreed_of_fields (Obj.data_mapFields hdT _)),Obj.data_mapFields hdT _,by simp [hsz3]⟩
theorem wpAny_noteFrame_firstW {M:Model} {A:Around} {E:Value→Shared→Prop} {s:Shared} {base:Heap} {env:Env} {outer:List Env} {L e:Addr} {oe:Obj} {vs:Array Value} {a0:Value} {Q:Unit→Shared→Prop}
  (hfr:A.frames=some (env::outer)) (hl:s.heap.FunFrames base (env::outer)) (hf:env.frame=some L)
  (he:s.heap.get? e=some oe) (hkb:base.StaysIn s.heap) (hen:base.get? e=none) (hd:oe.data=.fields vs) (h1:vs[1]?=some .none) (h0:vs[0]?=some a0)
  (h:∀ h',Heap.NotedW base (env::outer) e oe.cls a0 (rawInt L) s.heap h'→Q () { s with heap:=h' }):wpAny M A (noteFrame (.ref e) env) Q E s:=by
 unfold noteFrame
 simp only [hf]
 refine wpAny_bind (wpAny_field he hd h1 ?_)
 rw [if_neg (by decide)]
 exact wpAny_entryW hfr hl hf he hkb hen hd (Array.getElem?_eq_some_iff.mp h1).1 h0 h
theorem hide_in (Φ:Act):∀ env∈(Φ.fenv::Φ.outer),∀ b,env.frame=some b→b∈frames Φ:=fun env he b hb=>List.mem_filterMap.mpr ⟨env,he,hb⟩
theorem note_ex {e:Addr} {s:Shared} {E:Value→Shared→Prop} {Qf:Unit→Shared→Prop} (ok:Φ.Ok n) (x:ExAt Φ P M σ e s.heap)
  (k:∀ h',HeldAt Φ P M σ e h'→Qf () { s with heap:=h' }):wpAny (model Φ.prog Φ.w) Φ.A (noteFrame (.ref e) Φ.fenv) Qf E s:=by
 rcases x with ⟨h₀,vs,y,hx⟩ | ⟨B,t,h₀,y,hB,u,f⟩ | ⟨B,t,h₀,y,hB,u,f⟩
 ·have ff:=funFrames_hide (y.funFrames ok) (hide_in Φ)
  obtain ⟨t,he,htn,ht⟩:=hx.there
  have st:(hideAll h₀ (frames Φ)).StaysIn s.heap:=fun b o q=>hx.keeps b o (of_hideAll _ q)
  have hen:(hideAll h₀ (frames Φ)).get? e=none:=by
   cases q:(hideAll h₀ (frames Φ)).get? e with
   | none=>rfl
   | some o=>have:=of_hideAll _ q; rw [hx.new] at this; cases this
  refine wpAny_noteFrame_firstW (base:=hideAll h₀ (frames Φ)) ok.frames (ff.of_keeps fun b o hb _=>⟨o,hx.keeps b o hb,rfl⟩) ok.ff he st hen rfl rfl rfl fun h' hN=>?_
  obtain ⟨k1,k2,k3,k4⟩:=hN
  exact k h' ⟨_,t,h₀,y,fun b o e hb=>hideAll_get _ e hb,(Heap.UpToSlots.of_keeps hx.keeps).trans k4,k1,hen,k2,k3⟩
 ·exact wpAny_looks_onW ok.frames ok.ff f fun h' x1 x2=>k h' ⟨B,t,h₀,y,hB,u.trans x2,x1⟩
 ·exact wpAny_noteFrame_againW ok.ff f.2.2.2 (k s.heap ⟨B,t,h₀,y,hB,u,f⟩)
theorem leave_fly {e:Addr} {s:Shared} {E:Value→Shared→Prop} {Qf:Unit→Shared→Prop} (ok:Φ.Ok n) (x:ExAt Φ P M σ e s.heap)
  (k:∀ h' B t h₀,St Φ P M σ h₀→(∀ b o,h₀.get? b=some o→b∉frames Φ→B.get? b=some o)→h₀.UpToSlots h'→Heap.FlyingW B Φ.outer e (.ref Φ.exc) (.ref t) h'→Qf () { s with heap:=h' }) :
  wpAny (model Φ.prog Φ.w) Φ.A (leaving Φ.fenv (.ref e)) Qf E s:=by
 unfold leaving
 refine wpAny_bind (note_ex ok x fun h₁ z=>?_)
 obtain ⟨B,t,h₀,y,hB,u,f⟩:=z
 refine wpAny_landsW f fun h₂ g u₂=>?_
 obtain ⟨g1,g2,⟨_,_,g3⟩,g4⟩:=g
 exact k h₂ B t h₀ y hB (u.trans u₂) ⟨g1,g2,g3,g4⟩
theorem PX.passes {s:Shared} {R:KL} (ok:Φ.Ok n) (hc:Φ.comp=none):PassesOwn (model Φ.prog Φ.w) Φ.A Φ.env (PX Φ P s R):=by
 rintro x s' ⟨m,M',σ',e,rfl,hR,hx⟩
 unfold notedBy
 rw [← ok.fn hc]
 refine note_ex ok hx ?_
 rintro h₁ ⟨B,t,h₀,y,hB,u,f⟩
 unfold cameBackBy
 obtain ⟨f1,f2,f3,f4⟩:=id f
 obtain ⟨oe,vs,T,oT,ts,he,hcls,hd,h1,hnT,hTe,hT,hdT,h3⟩:=id f4
 refine wpAny_bind (wpAny_field (s:={ s' with heap:=h₁ }) he hd h1 ?_)
 rw [if_neg (show ¬ ((Value.ref T == Value.none)=true) from by simp)]
 rw [ok.ff]
 refine wpAny_setFlight_someW (s:={ s' with heap:=h₁ }) f1 f3 f4 fun h₂ k1 k2 k3 k4=>?_
 exact ⟨⟨m.gens,m.drawn,m.os⟩,M',σ',e,rfl,hR,.inr (.inr ⟨B,t,h₀,y,hB,u.trans fun b o hb hn=>⟨o.slots,k4 b o hb hn⟩,k1,f2,k2,k3⟩)⟩
end
section
variable {c:Ctx} {n:Nat} {P:PS} {M M':Loc} {σ:Sto} {h h':Heap} {Q:KV} {R:Sto→Prop}
theorem St.has {Φ:Act} (y:St Φ P M σ h):∀ b∈prot Φ P,∃ o,h.get? b=some o:=by
 intro b hm
 obtain ⟨m,F,N⟩:=y.fr
 simp only [prot,List.mem_cons,List.mem_append,List.mem_map] at hm
 rcases hm with rfl | hm | hm | ⟨p,hp,rfl⟩
 ·obtain ⟨o,ho,_⟩:=of_ns F.ns; exact ⟨o,ho⟩
 ·unfold Names at N
  cases hcomp:Φ.comp with
  | none=>rw [hcomp] at hm; simp at hm
  | some C =>
   rw [hcomp] at hm N
   have e:b=C:=by simpa using hm
   obtain ⟨_,mc,hn,_⟩:=N
   obtain ⟨o,ho,_⟩:=of_ns hn
   exact ⟨o,by rw [e]; exact ho⟩
 ·unfold Names at N
  cases hcomp:Φ.comp with
  | none=>rw [hcomp] at N; exact N.has hm
  | some C=>rw [hcomp] at N; obtain ⟨_,mc,_,n⟩:=N; exact n.has hm
 ·obtain ⟨o,ho,_⟩:=y.ps p hp; exact ⟨o,ho⟩
theorem NRel_free {m:Str→Option Value} {h:Heap} {rest:List Str} (k:∀ x∈rest,m x=none):NRel m h (rest.map fun x=>(x,none)) (rest.map fun _=>none):=by
 induction rest with
 | nil=>exact .nil
 | cons x rest ih=>exact .cons (congrArg (Option.map er) (k x (.head _))) (ih fun y hy=>k y (.tail _ hy))
theorem NRel_args {h:Heap} {m:Str→Option Value} {rest xs:List Str} {vals:List Value} (e:xs.length=vals.length) (hz:∀ p∈xs.zip vals,m p.1=some p.2) (hr:∀ x∈rest,m x=none) :
  NRel m h ((xs++rest).map fun x=>(x,none)) ((vals.map er).map some++rest.map fun _=>none):=by
 induction xs generalizing vals with
 | nil =>
  cases vals with
  | nil=>exact NRel_free hr
  | cons=>cases e
 | cons x xs ih =>
  cases vals with
  | nil=>cases e
  | cons v vals=>exact .cons (congrArg (Option.map er) (hz (x,v) (.head _))) (ih (Nat.succ.inj e) fun p hp=>hz p (.tail _ hp))
theorem lookup_zip {xs:List Str} {vals:List Value} (nd:xs.Nodup) (e:xs.length=vals.length):(∀ p∈xs.zip vals,(xs.zip vals).reverse.lookup p.1=some p.2):=by
 intro p hp
 refine lookup_of_mem ?_ (List.mem_reverse.mpr hp)
 rw [List.map_reverse,List.map_fst_zip (by (revert e; lia))]
 exact List.pairwise_reverse.mpr (nd.imp fun h=>Ne.symm h)
theorem lookup_none {α:Type} {x:Str} {l:List (Str×α)} (hx:x∉l.map (·.1)):l.lookup x=none:=by
 induction l with
 | nil=>rfl
 | cons y l ih =>
  rw [List.lookup_cons,beq_eq_false_iff_ne.mpr fun q:x=y.1=>hx (q▸.head _)]
  exact ih fun q=>hx (.tail _ q)
inductive FnAt (K:Frag) (f:Addr) (xs:List Str) (scope:Scope) (body:List Stmt) (cdv:Value) (qual:Str):Prop
 | mk (name:Str) (params:Arguments) (dV kV doc:Value) (pm:Value) (an:Option Addr) (ct oc:Value) (od:Option Addr) (osl:Array (Option Value)) (h:K.lookup f=some ⟨oc,od,.func (fnOf name qual params body scope dV kV doc pm an cdv ct),osl⟩)
  (b:∀ vals:List Value,vals.length=xs.length→bindArgs (fnOf name qual params body scope dV kV doc pm an cdv ct) ⟨vals,[]⟩=pure (xs.zip vals))
structure FnOk (c:Ctx) (f:Addr) (xs rest:List Str) (scope:Scope) (body:List Stmt) (cdv:Value) (qual:Str):Prop where
 at_:FnAt c.K f xs scope body cdv qual
 code:codeIn c.K cdv qual=true
 names:(scope.names.map (·.1)).Nodup
 locals:∀ x∈xs++rest,(x,NameKind.local)∈scope.names
 nodup:(xs++rest).Nodup
 dbg:∀ v∈scope.names,(v.1 == ("__debug__" : Str))=false
 cell:∀ x∈scope.names,x.2≠.cell
 co:scope.isCoroutine=false
 gen:scope.isGenerator=false
 kind:scope.kind=.function
structure InFn (c:Ctx) (n:Nat) (f:Addr) (xs rest:List Str) (scope:Scope) (cdv:Value) (qual:Str) (Φ:Act):Prop where
 ok:Φ.Ok n
 ctx:Φ.toCtx=c
 env:∃ L,Φ.env=envOf qual scope L f cdv
 comp:Φ.comp=none
 vars:Φ.vars=(xs++rest).map fun x=>(x,none)
@[reducible] def kFn (Q:KV):KF:=fun fl _ σ'=>match fl with | .ret v=>Q v σ' | .next=>Q .none σ' | .cont=>False
@[reducible] def kR (R:Sto→Prop):KL:=fun _ σ'=>R σ'
theorem argsN0 {p:List Value→Prop} (h:p []):∀ l:List Value,l.length=0→p l:=fun l e=>by rw [List.length_eq_zero_iff.mp e]; exact h
theorem argsN {n:Nat} {p:List Value→Prop} (h:∀ a l,l.length=n→p (a::l)) (l:List Value) (e:l.length=n+1):p l:=by
 cases l with
 | nil=>cases e
 | cons a l=>exact h a l (Nat.succ.inj e)
theorem Call.enter {f:Addr} {xs rest:List Str} {scope:Scope} {body:List Stmt} {cdv:Value} {qual:Str} {Vs:List V} (fo:FnOk c f xs rest scope body cdv qual) (hlen:Vs.length=xs.length)
  (hb:∀ Φ,InFn c n f xs rest scope cdv qual Φ→SS Φ body (Vs.map some++rest.map fun _=>none) σ
   (kFn Q) (kR R)):Call c (n+1) (.ref f) Vs σ Q R:=by
 refine .mk fun Φ hc ok P M vals s hv y=>?_
 subst hc
 obtain ⟨m,F,N⟩:=y.fr
 obtain ⟨name,params,dV,kV,doc,pm,an,ct,oc,od,osl,ho,hbind⟩:=fo.at_
 have hvl:vals.length=xs.length:=by rw [← hlen,← hv,List.length_map]
 have X:=ok.ctx.X.keeps F.keep
 have hroom:Φ.A.depth < recursionLimit:=by have:=ok.depth; show _ < 1000; (revert this; lia)
 have hin:∀ z∈xs.zip vals,scope.names.lookup z.1=some .local:=fun z hz=>by
  have:z.1∈xs:=(List.of_mem_zip hz).1
  exact lookup_of_mem fo.names (fo.locals z.1 (List.mem_append.mpr (.inl this)))
 refine codeAny_call_def (fd:=fnOf name qual params body scope dV kV doc pm an cdv ct) (body:=body) (binds:=xs.zip vals) hroom (X _ _ ho) rfl (ok.ctx.T.nolimit.keeps F.keep) (codeRec_of X fo.code) rfl
  (BindsTo.of_eq (hbind vals hvl)) fo.cell hin (fun h₁ hns k₁=>?_) fo.co fo.gen fo.kind
 have hLn:s.heap.get? s.heap.objs.size=none:=none_size (Nat.le_refl _)
 have hbn:Φ.base.get? s.heap.objs.size=none:=by
  cases q:Φ.base.get? s.heap.objs.size with
  | none=>rfl
  | some o=>rw [F.keep _ _ q] at hLn; cases hLn
 have hLp:s.heap.objs.size∉prot Φ P:=fun hm=>by
  obtain ⟨o,ho⟩:=y.has _ hm
  rw [hLn] at ho; cases ho
 let env':=envOf qual scope s.heap.objs.size f cdv
 let Φ':=callee Φ env' s.heap.objs.size ((xs++rest).map fun x=>(x,none))
 have hcells:Φ'.cells=[]:=by
  show ((xs++rest).map fun x=>((x,none):Str×Option Addr)).filterMap (·.2)=[]
  rw [List.filterMap_map]
  exact List.filterMap_eq_nil_iff.mpr fun _ _=>rfl
 have hprot:prot Φ' (belowPS Φ P m s.heap)=s.heap.objs.size::prot Φ P:=by
  unfold prot
  rw [hcells,belowPS_keys]
  rfl
 have ok':Φ'.Ok n:=by
  refine ⟨ok.ctx,fun _=>ok.hand (Nat.succ_ne_zero _),?_,rfl,fo.kind,?_,?_,?_,fo.kind,rfl,rfl,rfl,fo.names,fun v hv=>?_,?_,fo.dbg,fun _=>rfl⟩
  ·show (Φ.A.deeper env').frames=_
   show Φ.A.frames.map (env'::·)=_
   rw [ok.frames]; rfl
  ·show Φ.A.depth+1+8*n≤800
   have:=ok.depth; (revert this; lia)
  ·show Φ.A.units+3+64*n≤9000
   have:=ok.units; (revert this; lia)
  ·intro q; cases q
  ·obtain ⟨x,hx,rfl⟩:=List.mem_map.mp hv
   exact fo.locals x hx
  ·show (((xs++rest).map fun x=>((x,none):Str×Option Addr)).map (·.1)).Nodup
   rw [List.map_map]
   exact (List.map_id (xs++rest)).symm▸fo.nodup
 have ndx:xs.Nodup:=(List.nodup_append.mp fo.nodup).1
 have y':St Φ' (belowPS Φ P m s.heap) (Vs.map some++rest.map fun _=>none) σ h₁:=by
  obtain ⟨_,ps,⟨δ,Rr,hbb⟩,nd,old,out⟩:=id y
  refine ⟨⟨_,⟨hns,fun b o e=>k₁ b o (F.keep b o e),?_⟩,?_⟩,fun p hp=>?_,⟨δ,⟨fun a o e=>(Rr.rel a o e).same fun b hb'=>?_,Rr.sep,Rr.two⟩,fun a o e b hb'=>⟨(hbb a o e b hb').1,?_⟩⟩,?_,?_,fun env he=>?_⟩
  ·exact Nat.le_trans F.above (Nat.le_of_lt F.ns.lt)
  ·show NRel _ h₁ ((xs++rest).map fun x=>(x,none)) _
   rw [← hv]
   refine NRel_args (m:=fun z=>(xs.zip vals).reverse.lookup z) hvl.symm (lookup_zip ndx hvl.symm) fun x hx=>lookup_none fun q=>?_
   rw [List.map_reverse,List.mem_reverse,List.map_fst_zip (by (revert hvl; lia))] at q
   exact (List.nodup_append.mp fo.nodup).2.2 x q x hx rfl
  ·simp only [belowPS,List.mem_cons,List.mem_append,List.mem_map] at hp
   rcases hp with rfl | ⟨C,hC,rfl⟩ | ⟨b,hb',rfl⟩ | hp
   ·obtain ⟨o,ho,hp⟩:=of_ns F.ns
    exact ⟨o,k₁ _ _ ho,hp⟩
   ·obtain ⟨o,ho⟩:=y.has C (by simp only [prot,List.mem_cons,List.mem_append]; exact .inr (.inl hC))
    exact ⟨o,k₁ _ _ ho,ho⟩
   ·obtain ⟨o,ho⟩:=y.has b (by simp only [prot,List.mem_cons,List.mem_append]; exact .inr (.inr (.inl hb')))
    exact ⟨o,k₁ _ _ ho,ho⟩
   ·obtain ⟨o,ho,r⟩:=ps p hp
    exact ⟨o,k₁ _ _ ho,r⟩
  ·obtain ⟨ob,hob⟩:=(Rr.rel a o e).some b hb'
   rw [hob]; exact k₁ b ob hob
  ·rw [hprot]
   intro q
   rcases List.mem_cons.mp q with e2 | q
   ·obtain ⟨ob,hob⟩:=(Rr.rel a o e).some b hb'
    rw [e2,hLn] at hob; cases hob
   ·exact (hbb a o e b hb').2 q
  ·rw [hprot]
   exact List.nodup_cons.mpr ⟨hLp,nd⟩
  ·rw [hprot]
   intro b hb'
   rcases List.mem_cons.mp hb' with rfl | hb'
   ·exact hbn
   ·exact old b hb'
  ·rcases List.mem_cons.mp he with rfl | he
   ·exact ⟨by rw [ok.fk]; decide,Φ.L,ok.ff,m,.head _⟩
   ·obtain ⟨hk,L,hf,mm,hm⟩:=out env he
    exact ⟨hk,L,hf,mm,List.mem_cons_of_mem _ (List.mem_append.mpr (.inr (List.mem_append.mpr (.inr hm))))⟩
 have inF:InFn Φ.toCtx n f xs rest scope cdv qual Φ':=⟨ok',rfl,⟨_,rfl⟩,rfl,rfl⟩
 have run:=(hb Φ' inF).1.1 (belowPS Φ P m s.heap) { s with heap:=h₁,toks:=s.toks+(xs.zip vals).length } y'
 refine wpAny_mono run (fun fl s₁ hr=>?_) fun e s₁ hr=>?_
 ·obtain ⟨sm,M₁,σ₁,y₁,q⟩:=hr
  have sm':Sm s s₁:=⟨sm.gens,sm.drawn,sm.os⟩
  cases fl with
  | next=>exact ⟨sm',σ₁,St.back (Φ':=Φ') rfl y F N y₁,q⟩
  | ret v=>exact ⟨sm',σ₁,St.back (Φ':=Φ') rfl y F N y₁,q⟩
  | cont=>exact q.elim
  | brk=>exact q.elim
 ·obtain ⟨sm,M₁,σ₁,ea,rfl,hR,hx⟩:=hr
  refine leave_fly (Φ:=Φ') ok' hx fun h₂ B t h₀ y₀ hB u f=>?_
  have y₀':St Φ P M σ₁ h₀:=St.back (Φ':=Φ') rfl y F N y₀
  refine ⟨⟨sm.gens,sm.drawn,sm.os⟩,M,σ₁,ea,rfl,⟨rfl,hR⟩,.inr (.inl ?_)⟩
  -- the callee's frame hidden
  refine ⟨B,t,h₀.hide s.heap.objs.size,?_,fun b o e hb'=>?_,fun b o e hd=>u b o (Heap.of_hide e) hd,f⟩
  ·have hL':s.heap.objs.size∈prot Φ' (belowPS Φ P m s.heap):=by simp [hprot]
   exact y₀'.but hbn hLp (fun δ Rr hbb a o e hm=>by
    -- the store's footprint lies off the callee's frame
    obtain ⟨δ1,R1,h1⟩:=y₀.st
    cases o with
    | inst C fs =>
     simp [fp] at hm
     obtain ⟨g1,es,k,g2,_⟩:=R1.rel a _ e
     obtain ⟨g3,_⟩:=Rr.rel a _ e
     rw [g1] at g3
     injection g3 with g3
     injection g3 with _ g3 _ _
     injection g3 with g3
     rcases hm with hm | hm
     ·exact (h1 a _ e a (fp_self _ _ _)).2 (by rw [← hm]; exact hL')
     ·exact (h1 a _ e (δ1 a) (by simp [fp])).2 (by rw [g3,← hm]; exact hL')
    | _=>exact (h1 a _ e _ hm).2 hL') fun b o hbn' e=>by rw [Heap.hide_ne _ hbn']; exact e
  ·have hne:b≠s.heap.objs.size:=fun q=>by rw [q,Heap.hide_self] at e; cases e
   rw [Heap.hide_ne _ hne] at e
   refine hB b o e fun q=>hb' ?_
   obtain ⟨env,he,hf⟩:=List.mem_filterMap.mp q
   rcases List.mem_cons.mp he with rfl | he
   ·exact absurd (Option.some.inj hf).symm hne
   ·exact List.mem_filterMap.mpr ⟨env,he,hf⟩
end
section
variable {Φ:Act} {n:Nat} {P:PS} {M M':Loc} {σ:Sto} {Q:KV} {R:KL} {pos:Pos} {k:Nat}
noncomputable def PA (Φ:Act) (P:PS) (M:Loc) (s:Shared) (Q:KA) (vs:List Value) (s':Shared):Prop :=
 Sm s s'∧∃ σ',St Φ P M σ' s'.heap∧Q (vs.map er) σ'
structure SA (Φ:Act) (pos:Pos) (es:List Expr) (M:Loc) (σ:Sto) (Q:KA) (R:KL):Prop where
 to:∀ (P:PS) (s:Shared),St Φ P M σ s.heap→wpAny (model Φ.prog Φ.w) Φ.A (spliced (backTo pos (starEach es Φ.env))) (PA Φ P M s Q) (PX Φ P s R) s
theorem SA_nil {Q:KA} (q:Q [] σ):SA Φ pos [] M σ Q R:=.mk fun P s y=>args_nil ⟨.refl s,σ,y,q⟩
@[reducible] def kAc (v:V) (Q:KA):KA:=fun vs σ=>Q (v::vs) σ
@[reducible] def kA (Φ:Act) (pos:Pos) (es:List Expr) (M:Loc) (Q:KA) (R:KL):KV:=fun v σ=>SA Φ pos es M σ (kAc v Q) R
@[reducible] def kCl (c:Ctx) (n:Nat) (f:Value) (Q:KV) (R:Sto→Prop):KA:=fun Vs σ=>Call c n f Vs σ Q R
inductive kTup (Q:KV) (vs:List V) (σ:Sto):Prop
 | mk (h:vs.length≤1000) (q:∀ a,σ a=none→Q (.ref a) (σ.set a (.tuple vs)))
inductive kLst (Q:KV) (vs:List V) (σ:Sto):Prop
 | mk (h:vs.length≤1000) (q:∀ a,σ a=none→Q (.ref a) (σ.set a (.list vs)))
theorem SA_cons {e:Expr} {es:List Expr} {Q:KA} (he:starEach (e::es) Φ.env=(false,eval e Φ.env)::starEach es Φ.env)
  (h:SE Φ e M σ (kA Φ pos es M Q R) R):SA Φ pos (e::es) M σ Q R:=.mk fun P s y =>
 args_cons (h.then (.refl s) y fun v σ₁ s₁ m₁ y₁ q=>wpAny_mono (q.1 P s₁ y₁) (fun vs s₂ qc=>by obtain ⟨m₂,σ₂,y₂,q₂⟩:=qc; exact ⟨m₁.trans m₂,σ₂,y₂,q₂⟩) fun _ _ x=>x.trans m₁) he
theorem SA.then {es:List Expr} {s s':Shared} {Q₁:KA} {f:List Value→Shared→Prop} (m:Sm s s') (x:St Φ P M σ s'.heap) (h:SA Φ pos es M σ Q₁ R)
  (k:∀ vs σ' s₂,Sm s s₂→St Φ P M σ' s₂.heap→Q₁ (vs.map er) σ'→f vs s₂):wpAny (model Φ.prog Φ.w) Φ.A (spliced (backTo pos (starEach es Φ.env))) f (PX Φ P s R) s' :=
 wpAny_mono (h.1 P s' x) (fun vs s₂ qc=>by obtain ⟨m',σ',a,b⟩:=qc; exact k vs σ' s₂ (m.trans m') a b) fun _ _ y=>y.trans m
theorem St.pushObj {s:Shared} (y:St Φ P M σ s.heap) {ob:Obj} {o:O} (hf:ob.isFreed=false) (hrel:∀ h',h'.get? s.heap.objs.size=some ob→ORel Φ.toCtx h' s.heap.objs.size 0 o) (hne:∀ C fs,o≠.inst C fs) :
  σ s.heap.objs.size=none∧St Φ P M (σ.set s.heap.objs.size o) (s.heap.push ob) :=
 y.alloc (dx:=0) (fun b o' e=>Heap.get?_push_of_some _ e) (hrel _ (Heap.get?_push_size _ hf)) (fun b hb=>by
  cases o with
  | inst C fs=>exact absurd rfl (hne C fs)
  | _=>simp [fp] at hb; subst hb; exact none_size (Nat.le_refl _)) fun C fs q=>absurd q (hne C fs)
theorem SE_tuple {es:List Expr} (hl:es.length≤1000) (h:SA Φ pos es M σ (kTup Q) R):SE Φ (.Tuple es k pos) M σ Q R:=.mk <| .mk fun P s y =>
 Tuple_ (h.then (.refl s) y fun vs σ₁ s₁ m₁ y₁ qf=>by
  obtain ⟨hlen,q⟩:=qf
  have z:=y₁.pushObj (ob:={ cls:=.type "tuple",data:=.seq vs.toArray }) (o:=.tuple (vs.map er)) rfl (fun h' e=>⟨vs,⟨_,e,rfl,0,rfl⟩,rfl⟩) (by intro C fs q; cases q)
  exact wpAny_newTuple ⟨m₁.trans ⟨rfl,rfl,rfl⟩,_,z.2,q _ z.1⟩ (by rw [sizeLine_eq]; simp only [List.length_map] at hlen; (revert hlen; lia)))
theorem newList_at {s:Shared} {vs:List Value} {Qv:Value→Shared→Prop} {E:Value→Shared→Prop} (y:St Φ P M σ s.heap) (hlen:vs.length≤1000000)
  (q:σ s.heap.objs.size=none→∀ h',h'=s.heap.push (listOf vs.toArray 0)→St Φ P M (σ.set s.heap.objs.size (.list (vs.map er))) h'→Qv (.ref s.heap.objs.size) { s with heap:=h' }):wpAny (model Φ.prog Φ.w) Φ.A (newList vs) Qv E s:=by
 have z:=y.pushObj (ob:=listOf vs.toArray 0) (o:=.list (vs.map er)) rfl (fun h' e=>⟨vs,0,e,rfl⟩) (by intro C fs q; cases q)
 exact wpAny_newObj_type (q z.1 _ rfl z.2) (by show vs.toArray.size≤_; rw [List.size_toArray,sizeLine_eq]; (revert hlen; lia))
theorem SE_list {es:List Expr} (h:SA Φ pos es M σ (kLst Q) R):SE Φ (.List es pos) M σ Q R:=.mk <| .mk fun P s y =>
 List_ (h.then (.refl s) y fun vs σ₁ s₁ m₁ y₁ qf=>by obtain ⟨hlen,q⟩:=qf; exact newList_at y₁ (by simp only [List.length_map] at hlen; (revert hlen; lia)) fun hn h' eh z=>⟨m₁.trans ⟨rfl,rfl,rfl⟩,_,z,q _ hn⟩)
theorem PX.of_call {s s':Shared} {x:Value} {Rc:Sto→Prop} (hR:∀ σ',Rc σ'→R M σ') (h:PX Φ P s (fun M' σ'=>M'=M∧Rc σ') x s'):PX Φ P s R x s' :=
 h.mono fun M' σ' qc=>by obtain ⟨e2,r⟩:=qc; subst e2; exact hR _ r
theorem Call.wp {f:Value} {Vs:List V} {Rc:Sto→Prop} {vals:List Value} {s s':Shared} (ok:Φ.Ok n) (hc:Call Φ.toCtx n f Vs σ Q Rc) (hv:vals.map er=Vs) (m:Sm s s') (y:St Φ P M σ s'.heap) (hR:∀ σ',Rc σ'→R M σ') :
  wpAny (model Φ.prog Φ.w) Φ.A (call f vals) (PE Φ P M s Q) (PX Φ P s R) s' :=
 wpAny_call (codeAny_mono (hc.1 Φ rfl ok P M vals s' hv y) fun r s₂ hr=>by
  cases r with
  | ok fl=>cases fl <;> first | exact hr.elim | exact hr.trans m
  | error e=>exact (PX.of_call hR hr).trans m)
theorem glob_raw (ok:Φ.Ok n) {x:Str} {v:Value} {Qv:Value→Shared→Prop} {E:Value→Shared→Prop} {s:Shared} (hx:(x,NameKind.globalImplicit)∈Φ.env.scope.names) (hg:Glob Φ.toCtx x v) (y:St Φ P M σ s.heap) (q:Qv v s) :
  wpAny (model Φ.prog Φ.w) Φ.A (eval (.Name x pos) Φ.env) Qv E s:=by
 obtain ⟨m,F,N⟩:=y.fr
 refine Name_function_global ok.kind (lookup_of_mem ok.nms hx) ?_ (ok.dbg _ hx)
 rcases hg with e | ⟨e,hb,hn⟩
 ·exact loadGlobal_global (by rw [ok.glob]; exact ok.ctx.T.g.keeps F.keep) (mg_of ok.ctx.X ok.ctx.T.g e) q
 ·exact loadGlobal_builtin (by rw [ok.glob]; exact ok.ctx.T.g.keeps F.keep) (mg_none_of ok.ctx.X ok.ctx.T.g e) (by rw [ok.blt]; exact ok.ctx.T.b.keeps F.keep) ((ok.ctx.T.builtins x hn).trans hb) q
theorem St.K (ok:Φ.Ok n) {h:Heap} (y:St Φ P M σ h):Φ.K.In h:=by obtain ⟨m,F,N⟩:=y.fr; exact ok.ctx.X.keeps F.keep
theorem callWith_at {s s':Shared} {f:Value} {first:List Value} {e:Expr} {es:List Expr} {Qv:Value→Shared→Prop} (ok:Φ.Ok n) (hk:keepIn Φ.K f=true) (he:starEach (e::es) Φ.env=(false,eval e Φ.env)::starEach es Φ.env) (hplain:(backTo pos (starEach es Φ.env)).any (·.1)=false) (m:Sm s s') (y:St Φ P M σ s'.heap)
  {Qa:KA} (h:SA Φ pos (e::es) M σ Qa R) (k:∀ vs σ' s₂,Sm s s₂→St Φ P M σ' s₂.heap→Qa (vs.map er) σ'→wpAny (model Φ.prog Φ.w) Φ.A (call f (first++vs)) Qv (PX Φ P s R) s₂) :
  wpAny (model Φ.prog Φ.w) Φ.A (callWith pos f first (backTo pos (starEach (e::es) Φ.env)) []) Qv (PX Φ P s R) s' :=
 callWith_K (y.K ok) hk (h.then m y fun vs σ₁ s₁ m₁ y₁ q=>⟨y₁.K ok,k vs σ₁ s₁ m₁ y₁ q⟩) he hplain
theorem callWith_at0 {s':Shared} {f:Value} {first:List Value} {Qv:Value→Shared→Prop} {E:Value→Shared→Prop} (ok:Φ.Ok n) (hk:keepIn Φ.K f=true) (y:St Φ P M σ s'.heap) (k:wpAny (model Φ.prog Φ.w) Φ.A (call f first) Qv E s') :
  wpAny (model Φ.prog Φ.w) Φ.A (callWith pos f first (backTo pos (starEach [] Φ.env)) []) Qv E s' :=
 callWith_K0 (y.K ok) hk (by rw [List.append_nil]; exact k)
theorem SE_call (ok:Φ.Ok n) {x:Str} {np:Pos} {f:Value} {e:Expr} {es:List Expr} (hx:(x,NameKind.globalImplicit)∈Φ.env.scope.names) (hg:Glob Φ.toCtx x f) (hk:keepIn Φ.K f=true) (he:starEach (e::es) Φ.env=(false,eval e Φ.env)::starEach es Φ.env) (hplain:(backTo pos (starEach es Φ.env)).any (·.1)=false)
  (h:SA Φ pos (e::es) M σ (kCl Φ.toCtx n f Q (R M)) R):SE Φ (.Call (.Name x np) (e::es) [] pos) M σ Q R:=.mk <| .mk fun P s y =>
 Call_ (glob_raw ok hx hg y (callWith_at ok hk he hplain (.refl s) y h fun vs σ₁ s₁ m₁ y₁ q=>q.wp ok rfl m₁ y₁ fun _ r=>r))
theorem SE_call0 (ok:Φ.Ok n) {x:Str} {np:Pos} {f:Value} (hx:(x,NameKind.globalImplicit)∈Φ.env.scope.names) (hg:Glob Φ.toCtx x f) (hk:keepIn Φ.K f=true)
  (h:Call Φ.toCtx n f [] σ Q (R M)):SE Φ (.Call (.Name x np) [] [] pos) M σ Q R:=.mk <| .mk fun P s y =>
 Call_ (glob_raw ok hx hg y (callWith_at0 ok hk y (h.wp ok rfl (.refl s) y fun _ r=>r)))
structure ClsOk (c:Ctx) (C fI:Addr):Prop where
 makes:makesIn c.K C=true
 init:findIn c.K (.ref C) "__init__"=some (some (.ref fI))
 fn:typeIn c.K (.ref fI)=some (.type "function")
theorem St.A {A':Around} {h:Heap} (y:St Φ P M σ h):St { Φ with A:=A' } P M σ h :=
 ⟨y.fr,y.ps,y.st,y.nd,y.old,y.out⟩
theorem St.ofA {A':Around} {h:Heap} (y:St { Φ with A:=A' } P M σ h):St Φ P M σ h :=
 ⟨y.fr,y.ps,y.st,y.nd,y.old,y.out⟩
inductive kMk (Q:KV) (x:Addr) (v:V) (σ:Sto):Prop
 | mk (h:v=.none) (q:Q (.ref x) σ)
theorem Call.make {c:Ctx} {C fI:Addr} {Vs:List V} {Q:KV} {R:Sto→Prop} (co:ClsOk c C fI)
  (h:∀ x,σ x=none→Call c n (.ref fI) (.ref x::Vs) (σ.set x (.inst C [])) (kMk Q x) R):Call c (n+1) (.ref C) Vs σ Q R:=by
 refine .mk fun Φ hc ok P M vals s hv y=>?_
 subst hc
 obtain ⟨m,F,N⟩:=y.fr
 have X:=y.K ok
 refine make_K F allNews_news X co.makes co.init co.fn fun x dx h' F' N' l1 l2=>?_
 have k:=kept_of_news F' N' (fun p hp=>List.mem_cons_of_mem _ (List.mem_cons_of_mem _ hp)) F
 have hdx:s.heap.get? dx=none:=by
  cases e:s.heap.get? dx with
  | none=>rfl
  | some o =>
   by_cases q:dx=Φ.L
   ·exact absurd q (N' (dx,emptyDict) (.tail _ (.head _))).2.1
   ·have hb:Φ.base.get? dx=none:=(N' (dx,emptyDict) (.tail _ (.head _))).2.2
    exact absurd (l1 _ (allNews_mem.mpr ⟨e,q,hb⟩)) (Nat.lt_irrefl _)
 have hx:s.heap.get? x=none:=by
  cases e:s.heap.get? x with
  | none=>rfl
  | some o =>
   by_cases q:x=Φ.L
   ·exact absurd q (N' (x,instObj C dx) (.head _)).2.1
   ·have hb:Φ.base.get? x=none:=(N' (x,instObj C dx) (.head _)).2.2
    exact absurd (Nat.lt_trans l2 (l1 _ (allNews_mem.mpr ⟨e,q,hb⟩))) (Nat.lt_irrefl _)
 have z:=y.push F N k (a:=x) (dx:=dx) (o:=.inst C []) ⟨(N' _ (.head _)).1,[],0,(N' _ (.tail _ (.head _))).1,trivial,.nil⟩ (fun b hb=>by
  simp [fp] at hb
  rcases hb with rfl | rfl
  ·exact hx
  ·exact hdx) (fun C' fs' e=>(Nat.ne_of_gt l2))
 let Φ':Act:={ Φ with A:=Φ.A.under (.builtin "type.__call__" ⟨.ref C::vals,[]⟩) }
 have ok':Φ'.Ok n:=by
  refine ⟨ok.ctx,fun _=>ok.hand (Nat.succ_ne_zero _),?_,ok.ff,ok.fk,?_,?_,ok.compf,ok.kind,ok.loc,ok.glob,ok.blt,ok.nms,ok.vok,ok.vnd,ok.dbg,ok.fn⟩
  ·exact ok.frames
  ·show (Φ.A.under _).depth+8*n≤800
   rw [depth_under_make]
   have:=ok.depth; (revert this; lia)
  ·show Φ.A.units+(Code.builtin "type.__call__" ⟨.ref C::vals,[]⟩).cUnits+64*n≤9000
   have e:(Code.builtin "type.__call__" ⟨.ref C::vals,[]⟩).cUnits=1:=rfl
   rw [e]
   have:=ok.units; (revert this; lia)
 have run:=(h x z.1).1 Φ' rfl ok' P M (.ref x::vals) { s with heap:=h' } (by rw [List.map_cons,hv]; rfl) z.2.A
 refine codeAny_mono run fun r s₂ hr=>?_
 cases r with
 | ok fl =>
  cases fl with
  | ret v =>
   obtain ⟨sm,σ₂,y₂,ev,q⟩:=hr
   exact ⟨er_none ev,⟨sm.gens,sm.drawn,sm.os⟩,σ₂,y₂.ofA,q⟩
  | _=>exact hr.elim
 | error e =>
  obtain ⟨sm,M₂,σ₂,ea,rfl,⟨e2,hR⟩,hx⟩:=hr
  refine ⟨⟨sm.gens,sm.drawn,sm.os⟩,M₂,σ₂,ea,rfl,⟨e2,hR⟩,?_⟩
  rcases hx with ⟨h₀,vs,y₀,hx⟩ | ⟨B,t,h₀,y₀,hB,u,f⟩ | ⟨B,t,h₀,y₀,hB,u,f⟩
  ·exact .inl ⟨h₀,vs,y₀.ofA,hx⟩
  ·exact .inr (.inl ⟨B,t,h₀,y₀.ofA,hB,u,f⟩)
  ·exact .inr (.inr ⟨B,t,h₀,y₀.ofA,hB,u,f⟩)
class inductive FGet:List (Str×V)→Str→V→Prop
 | head {x v fs}:FGet ((x,v)::fs) x v
 | tail {p fs x v}:FGet fs x v→FGet (p::fs) x v
class inductive FSet:List (Str×V)→Str→V→List (Str×V)→Prop
 | head {x v v' fs}:FSet ((x,v)::fs) x v' ((x,v')::fs)
 | tail {p fs x v' fs'}:FSet fs x v' fs'→FSet (p::fs) x v' (p::fs')
theorem FGet.mem {fs:List (Str×V)} {x:Str} {v:V} (h:FGet fs x v):(x,v)∈fs:=by
 induction h with
 | head=>exact .head _
 | tail _ ih=>exact .tail _ ih
theorem isStr_str {x y:Str} {t:Tok}:(Value.str x t).isStr y=(x == y):=rfl
theorem FRel.get {es:List DictEntry} {fs:List (Str×V)} {x:Str} {v:V} (r:FRel es fs) (nd:(fs.map (·.1)).Nodup) (hm:(x,v)∈fs):∃ u,getL x es=some (some u)∧er u=v:=by
 unfold getL
 induction es generalizing fs with
 | nil=>cases fs with
  | nil=>cases hm
  | cons=>exact r.elim
 | cons e es ih =>
  cases fs with
  | nil=>exact r.elim
  | cons f fs =>
   obtain ⟨⟨t,hk⟩,hv,r⟩:=r
   rw [List.map_cons,List.nodup_cons] at nd
   rw [List.find?_cons,hk,isStr_str]
   rcases List.mem_cons.mp hm with e2 | hm
   ·subst e2
    simp only [beq_self_eq_true]
    exact ⟨e.val,rfl,hv⟩
   ·have hne:f.1≠x:=fun q=>nd.1 (by rw [q]; exact List.mem_map.mpr ⟨_,hm,rfl⟩)
    simp only [beq_eq_false_iff_ne.mpr hne]
    obtain ⟨u,hu,hv'⟩:=ih r nd.2 hm
    refine ⟨u,?_,hv'⟩
    cases hf:es.find? (·.key.isStr x) with
    | some e'=>rw [hf] at hu; exact hu
    | none =>
     rw [hf] at hu; dsimp only at hu
     by_cases hq:(es.any fun x=>x.refKey)=true
     ·rw [if_pos hq] at hu; cases hu
     ·rw [if_neg hq] at hu; cases hu
theorem FRel.absent {es:List DictEntry} {fs:List (Str×V)} {x:Str} (r:FRel es fs) (hm:x∉fs.map (·.1)):getL x es=some none:=by
 have h1:∀ {es:List DictEntry} {fs:List (Str×V)},FRel es fs→x∉fs.map (·.1)→es.find? (·.key.isStr x)=none∧es.any (·.refKey)=false:=by
  intro es
  induction es with
  | nil=>intro fs _ _; exact ⟨rfl,rfl⟩
  | cons e es ih =>
   intro fs r hm
   cases fs with
   | nil=>exact r.elim
   | cons f fs =>
    obtain ⟨⟨t,hk⟩,hv,r⟩:=r
    have hne:f.1≠x:=fun q=>hm (by simp [q])
    obtain ⟨a,b⟩:=ih r fun q=>hm (List.mem_cons_of_mem _ q)
    refine ⟨?_,?_⟩
    ·rw [List.find?_cons,hk,isStr_str]
     simp only [beq_eq_false_iff_ne.mpr hne]
     exact a
    ·rw [List.any_cons,b]
     unfold DictEntry.refKey
     rw [hk]; rfl
 obtain ⟨a,b⟩:=h1 r hm
 unfold getL
 rw [a,b]; rfl
theorem FRel.putOld {es:List DictEntry} {fs fs':List (Str×V)} {x:Str} {hsh:Int} {key u:Value} (r:FRel es fs) (nd:(fs.map (·.1)).Nodup) (hs:FSet fs x (er u) fs'):FRel (putL x hsh key u es) fs'∧fs'.map (·.1)=fs.map (·.1)∧x∈fs.map (·.1):=by
 generalize hv:er u=v at hs
 induction hs generalizing es with
 | @head x v v' fs =>
  cases es with
  | nil=>exact r.elim
  | cons e es =>
   obtain ⟨⟨t,hk⟩,hv2,r⟩:=r
   unfold putL
   rw [hk,isStr_str]
   simp only [beq_self_eq_true,if_true]
   exact ⟨⟨⟨t,rfl⟩,hv,r⟩,rfl,.head _⟩
 | @tail p fs x v' fs' hs ih =>
  cases es with
  | nil=>exact r.elim
  | cons e es =>
   obtain ⟨⟨t,hk⟩,hv2,r⟩:=r
   rw [List.map_cons,List.nodup_cons] at nd
   obtain ⟨a,b,cc⟩:=ih r nd.2 hv
   have hne:p.1≠x:=fun q=>nd.1 (q▸cc)
   unfold putL
   rw [hk,isStr_str]
   simp only [beq_eq_false_iff_ne.mpr hne]
   exact ⟨⟨⟨t,hk⟩,hv2,a⟩,by rw [List.map_cons,List.map_cons,b],.tail _ cc⟩
theorem FRel.putNew {es:List DictEntry} {fs:List (Str×V)} {x:Str} {hsh:Int} {t:Tok} {u:Value} (r:FRel es fs) (hm:x∉fs.map (·.1)):FRel (putL x hsh (.str x t) u es) (fs++[(x,er u)]):=by
 induction es generalizing fs with
 | nil =>
  cases fs with
  | nil=>exact ⟨⟨t,rfl⟩,rfl,trivial⟩
  | cons=>exact r.elim
 | cons e es ih =>
  cases fs with
  | nil=>exact r.elim
  | cons f fs =>
   obtain ⟨⟨t',hk⟩,hv,r⟩:=r
   have hne:f.1≠x:=fun q=>hm (by simp [q])
   unfold putL
   rw [hk,isStr_str]
   simp only [beq_eq_false_iff_ne.mpr hne]
   exact ⟨⟨t',hk⟩,hv,ih r fun q=>hm (List.mem_cons_of_mem _ q)⟩
theorem FRel.length {es:List DictEntry} {fs:List (Str×V)} (r:FRel es fs):es.length=fs.length:=by
 induction es generalizing fs with
 | nil=>cases fs with
  | nil=>rfl
  | cons=>exact r.elim
 | cons e es ih =>
  cases fs with
  | nil=>exact r.elim
  | cons f fs=>rw [List.length_cons,List.length_cons,ih r.2.2]
end
section
variable {Φ:Act} {n:Nat} {P:PS} {M M':Loc} {σ:Sto} {Q:KV} {R:KL} {pos:Pos} {k:Nat}
theorem St.upd {h:Heap} {a:Addr} {o:O} (x:St Φ P M σ h) {m:Str→Option Value} (F:Fr Φ.base Φ.L h m) (N:Names Φ M m h) (e:σ a=some o) :
  ∃ dx,ORel Φ.toCtx h a dx o∧(∀ b∈fp a dx o,Φ.base.get? b=none∧b≠Φ.L)∧(∀ C fs,o=.inst C fs→a≠dx) ∧
  ∀ d∈fp a dx o,∀ h' o',Fr Φ.base Φ.L h' m→(∀ b ob,b≠d→b≠Φ.L→h.get? b=some ob→h'.get? b=some ob)→ORel Φ.toCtx h' a dx o'→fp a dx o'=fp a dx o→(∀ C fs,o'=.inst C fs→a≠dx)→St Φ P M (σ.set a o') h':=by
 obtain ⟨dx,hrel,hfp,hne,acc⟩:=x.acc e
 have memL:Φ.L∈prot Φ P:=by simp [prot]
 refine ⟨dx,hrel,fun b hb=>⟨(hfp b hb).1,fun q=>(hfp b hb).2 (q▸memL)⟩,hne,fun d hd h' o' F' k' hrel' hf' hne'=>?_⟩
 obtain ⟨ob,hob,hns⟩:=of_ns F.ns
 obtain ⟨obL,hobL,hnsL⟩:=of_ns F'.ns
 let h2:=h'.update Φ.L fun _=>ob
 have get2:∀ b,b≠Φ.L→h2.get? b=h'.get? b:=fun b hb=>Heap.get?_update_other h' _ (Ne.symm hb)
 have fob:ob.isFreed=false:=by
  obtain ⟨c,d,dt,sl⟩:=ob
  obtain ⟨es,ep,hd,_⟩:=hns
  dsimp only at hd; subst hd; rfl
 have get2L:h2.get? Φ.L=some ob:=Heap.get?_update_self _ hobL fob
 have hfpL:∀ b∈fp a dx o,b≠Φ.L:=fun b hb q=>(hfp b hb).2 (q▸memL)
 have x2:=acc d hd h2 o' (fun b o'' hb e=>by
  by_cases q:b=Φ.L
  ·subst q; rw [get2L]; rw [hob] at e; exact e
  ·rw [get2 b q]; exact k' b o'' hb q e) (hrel'.same fun b hb=>get2 b (hfpL b (hf'▸hb))) hf' hne'
 obtain ⟨p1,p2,p3,p4,p5,p6,p7⟩:=prot_parts x.nd
 have hdp:d∉prot Φ P:=(hfp d hd).2
 have N2:Names Φ M m h2:=by
  have kc:∀ b∈Φ.vars.filterMap (·.2),∀ o,h.get? b=some o→h2.get? b=some o:=fun b hb o e=>by
   have hbL:b≠Φ.L:=fun q=>p2 (q▸hb)
   rw [get2 b hbL]; exact k' b o (fun q=>hdp (q▸by simp only [prot,List.mem_cons,List.mem_append]; exact .inr (.inr (.inl hb)))) hbL e
  unfold Names at N ⊢
  cases hcomp:Φ.comp with
  | none=>rw [hcomp] at N; exact N.same kc
  | some C =>
   rw [hcomp] at N
   obtain ⟨em,mc,hn,r⟩:=N
   obtain ⟨o,ho,hp⟩:=of_ns hn
   have hCL:C≠Φ.L:=fun q=>p1 (by simp [hcomp,q])
   exact ⟨em,mc,ns_of (by rw [get2 C hCL]; exact k' C o (fun q=>hdp (q▸by simp [prot,hcomp])) hCL ho) hp,r.same kc⟩
 have F2:Fr Φ.base Φ.L h2 m:=⟨ns_of get2L (by
  obtain ⟨o3,ho3,hp3⟩:=of_ns F.ns
  rw [hob] at ho3; cases ho3; exact hp3),fun b o' e=>by
   by_cases q:b=Φ.L
   ·subst q; rw [x.old Φ.L memL] at e; cases e
   ·rw [get2 b q]; exact F'.keep b o' e,F.above⟩
 exact x2.kept F2 N2 ⟨F',fun b o' hb e=>by rw [get2 b hb] at e; exact e⟩
theorem Upd.of {d:Addr} {o o':Obj} {pre post:List (Addr×Obj)} (h1:∀ p∈pre,p.1≠d) (h:∀ p∈post,p.1≠d):Upd d o o' (pre++(d,o)::post) (pre++(d,o')::post):=by
 induction pre with
 | nil=>exact .head h
 | cons p pre ih=>exact .tail (h1 p (.head _)) (ih fun q hq=>h1 q (.tail _ hq))
structure FldOk (c:Ctx) (C:Addr) (x:Str):Prop where
 get:plainGet c.K C x=true
 dict:hasDictIn c.K C=true
 find:∃ attr,findIn c.K (.ref C) x=some attr∧noGet c.K attr=true
structure StoOk (c:Ctx) (C:Addr) (x:Str):Prop where
 set:findIn c.K (.ref C) "__setattr__"=some (some (.builtin "object.__setattr__"))
 over:plainOver c.K C=true
 taker:takerIn c.K C x=some none
 dict:hasDictIn c.K C=true
structure MetOk (c:Ctx) (C:Addr) (x:Str) (f:Addr):Prop where
 get:plainGet c.K C x=true
 find:findIn c.K (.ref C) x=some (some (.ref f))
 fn:isFn c.K (.ref f)=true
 keep:keepIn c.K (.ref f)=true
theorem St.inst {h:Heap} {a C:Addr} {fs:List (Str×V)} (y:St Φ P M σ h) (e:σ a=some (.inst C fs)):∃ dx es n,h.get? a=some (instObj C dx)∧h.get? dx=some (dictOf es n)∧FRel es fs∧(fs.map (·.1)).Nodup∧InstAt h a (instObj C dx) C (some (dictOf es n)):=by
 obtain ⟨dx,⟨h1,es,n,h2,r,nd⟩,_⟩:=y.acc e
 exact ⟨dx,es,n,h1,h2,r,nd,⟨h1,rfl,rfl,h2⟩⟩
theorem getAttr_at (ok:Φ.Ok n) {s s':Shared} {a C:Addr} {fs:List (Str×V)} {x:Str} {v:V} {expr:Bool} (m:Sm s s') (y:St Φ P M σ s'.heap) (e:σ a=some (.inst C fs)) (hf:FldOk Φ.toCtx C x) (hg:FGet fs x v) (hv:∀ w,v≠.oth w) (q:Q v σ) :
  wpAny (model Φ.prog Φ.w) Φ.A (getAttr (.ref a) x expr) (PE Φ P M s Q) (PX Φ P s R) s':=by
 obtain ⟨dx,es,k,h1,h2,r,nd,I⟩:=y.inst e
 obtain ⟨mm,F,N⟩:=y.fr
 obtain ⟨u,hu,rfl⟩:=r.get nd hg.mem
 obtain ⟨attr,ha,hn⟩:=hf.find
 have hh:handedIn u=true:=by cases u <;> first | rfl | exact absurd rfl (hv _)
 exact get_own F ok.ctx.X I hf.get hf.dict ha hn hu hh ⟨m.trans ⟨rfl,rfl,rfl⟩,σ,y,q⟩
inductive kAt (Φ:Act) (x:Str) (Q:KV) (ov:V) (σ:Sto):Prop
 | mk (a C:Addr) (fs:List (Str×V)) (v:V) (h:ov=.ref a) (e:σ a=some (.inst C fs)) (f:FldOk Φ.toCtx C x) (g:FGet fs x v) (w:∀ w,v≠.oth w) (q:Q v σ)
theorem SE_attr (ok:Φ.Ok n) {o:Expr} {x:Str} (hb:attributeBase o x Φ.env (eval o Φ.env)=eval o Φ.env)
  (h:SE Φ o M σ (kAt Φ x Q) R):SE Φ (.Attribute o x pos) M σ Q R:=by
 refine .mk <| .mk fun P s y=>?_
 show wpAny _ _ (eval (.Attribute o x pos) Φ.env) _ _ s
 rw [arm_eval_Attribute,hb]
 refine wpAny_bind (h.then (.refl s) y fun ov σ₁ s₁ m₁ y₁ hq=>wpAny_bind (wpAny_standAt (wpAny_bind (wpAny_holding ?_))))
 obtain ⟨a,C,fs,v,eo,e,hf,hg,hv,q⟩:=hq
 obtain rfl:=er_ref eo
 refine wpAny_mono (getAttr_at ok m₁ y₁ e hf hg hv q) (fun r s₂ hr=>?_) fun _ _ x=>x
 exact wpAny_bind (wpAny_letTemporaryGo (wpAny_pure hr))
theorem setAttr_at (ok:Φ.Ok n) {s s':Shared} {a C:Addr} {fs fs':List (Str×V)} {x:Str} {v:Value} {Qf:Flow→Shared→Prop} (m:Sm s s') (y:St Φ P M σ s'.heap) (e:σ a=some (.inst C fs)) (hf:StoOk Φ.toCtx C x)
  (hs:FSet fs x (er v) fs'∨(x∉fs.map (·.1)∧fs'=fs++[(x,er v)])) (hl:fs.length≤900) (q:∀ s₂,Sm s s₂→St Φ P M (σ.set a (.inst C fs')) s₂.heap→Qf .next s₂) {E:Value→Shared→Prop} :
  wpAny (model Φ.prog Φ.w) Φ.A (setAttr (.ref a) x v) (fun _=>Qf .next) E s':=by
 obtain ⟨mm,F,N⟩:=y.fr
 obtain ⟨dx,⟨h1,es,k,h2,r,nd⟩,hfp,hne,acc⟩:=y.upd F N e
 have I:InstAt s'.heap a (instObj C dx) C (some (dictOf es k)):=⟨h1,rfl,rfl,h2⟩
 have hdx:=hfp dx (by simp [fp])
 have hm:(dx,dictOf es k)∈allNews Φ.base Φ.L s'.heap:=allNews_mem.mpr ⟨h2,hdx.2,hdx.1⟩
 obtain ⟨pre,post,e0,g1,g2⟩:=split_mem allNews_nodup hm
 have Nw:News Φ.base Φ.L s'.heap (pre++(dx,dictOf es k)::post):=e0▸allNews_news
 have hsome:(getL x es).isSome=true∧FRel (putL x (PyData.keyHash Φ.w.params x) (.str x (s'.toks+1)) v es) fs'∧(fs'.map (·.1)).Nodup∧fs'.length≤fs.length+1:=by
  rcases hs with hs | ⟨hx,rfl⟩
  ·obtain ⟨a1,a2,a3⟩:=r.putOld (hsh:=PyData.keyHash Φ.w.params x) (key:=.str x (s'.toks+1)) nd hs
   refine ⟨?_,a1,a2▸nd,?_⟩
   ·obtain ⟨⟨x',w⟩,hm,ex⟩:=List.mem_map.mp a3
    dsimp only at ex; subst ex
    obtain ⟨u,hu,_⟩:=r.get nd hm
    rw [hu]; rfl
   ·have:=congrArg List.length a2
    simp only [List.length_map] at this
    (revert this; lia)
  ·refine ⟨by rw [r.absent hx]; rfl,r.putNew hx,?_,by simp⟩
   rw [List.map_append,List.nodup_append]
   refine ⟨nd,by simp,fun z hz w hw=>?_⟩
   have hw':w=x:=by simpa using hw
   intro q'
   exact hx (hw'▸q'▸hz)
 obtain ⟨hsm,hrel,hnd,hln⟩:=hsome
 have hlen:=hrel.length
 refine set_dict F ok.ctx.X Nw I rfl hf.set hf.over hf.taker hf.dict hsm rfl (Upd.of g1 g2) (by (revert hl hln hlen; lia)) fun h' F' N'=>q _ (m.trans ⟨rfl,rfl,rfl⟩) ?_
 refine acc dx (by simp [fp]) h' (.inst C fs') F' (fun b ob hb hbL eb=>?_) ⟨?_,_,_,(N' _ (List.mem_append.mpr (.inr (.head _)))).1,hrel,hnd⟩ rfl (fun C' fs2 e2=>hne C fs rfl)
 ·cases hbase:Φ.base.get? b with
  | some o' =>
   have:=F.keep b o' hbase
   rw [eb] at this; cases this
   exact F'.keep b _ hbase
  | none =>
   have hmem:(b,ob)∈pre++(dx,dictOf es k)::post:=e0▸allNews_mem.mpr ⟨eb,hbL,hbase⟩
   rcases List.mem_append.mp hmem with h3 | h3
   ·exact (N' _ (List.mem_append.mpr (.inl h3))).1
   ·rcases List.mem_cons.mp h3 with h4 | h4
    ·cases h4; exact absurd rfl hb
    ·exact (N' _ (List.mem_append.mpr (.inr (.tail _ h4)))).1
 ·have ha:=hfp a (fp_self _ _ _)
  have hadx:a≠dx:=hne C fs rfl
  have hmem:(a,instObj C dx)∈pre++(dx,dictOf es k)::post:=e0▸allNews_mem.mpr ⟨h1,ha.2,ha.1⟩
  rcases List.mem_append.mp hmem with h3 | h3
  ·exact (N' _ (List.mem_append.mpr (.inl h3))).1
  ·rcases List.mem_cons.mp h3 with h4 | h4
   ·cases h4
   ·exact (N' _ (List.mem_append.mpr (.inr (.tail _ h4)))).1
variable {F:KF}
inductive kSa (Φ:Act) (x:Str) (v:V) (M:Loc) (F:KF) (ov:V) (σ:Sto):Prop
 | mk (a C:Addr) (fs fs':List (Str×V)) (h:ov=.ref a) (e:σ a=some (.inst C fs)) (f:StoOk Φ.toCtx C x) (g:FSet fs x v fs'∨(x∉fs.map (·.1)∧fs'=fs++[(x,v)])) (l:fs.length≤900) (q:F .next M (σ.set a (.inst C fs')))
@[reducible] def kSa1 (Φ:Act) (o:Expr) (x:Str) (M:Loc) (F:KF) (R:KL):KV:=fun v σ=>SE Φ o M σ (kSa Φ x v M F) R
theorem SX_setattr (ok:Φ.Ok n) {o e:Expr} {x:Str} {pos':Pos} (hsw:swapsWith e (some (.Attribute o x pos')) pos.line Φ.env=pure false)
  (h:SE Φ e M σ (kSa1 Φ o x M F R) R) :
  SX Φ (.Assign [.Attribute o x pos'] e pos) M σ F R:=.mk <| .mk fun P s y =>
 plainObj_wpAny_Assign_Attribute (h.then (.refl s) y fun v σ₁ s₁ m₁ y₁ h₁=>h₁.then m₁ y₁ fun ov σ₂ s₂ m₂ y₂ qf=>by
  obtain ⟨a,C,fs,fs',eo,e2,hf,hs,hl,q⟩:=qf
  obtain rfl:=er_ref eo
  exact setAttr_at ok m₂ y₂ e2 hf hs hl fun s₃ m₃ y₃=>⟨m₃,M,_,y₃,q⟩) hsw
@[reducible] def kCr (c:Ctx) (n:Nat) (f a:Addr) (Q:KV) (R:Sto→Prop):KA:=fun Vs σ=>Call c n (.ref f) (.ref a::Vs) σ Q R
inductive kMe (Φ:Act) (n:Nat) (pos:Pos) (es:List Expr) (x:Str) (M:Loc) (Q:KV) (R:KL) (ov:V) (σ:Sto):Prop
 | mk (a C:Addr) (fs:List (Str×V)) (f:Addr) (h:ov=.ref a) (e:σ a=some (.inst C fs)) (m:MetOk Φ.toCtx C x f) (nx:x∉fs.map (·.1)) (q:SA Φ pos es M σ (kCr Φ.toCtx n f a Q (R M)) R)
inductive kMe0 (Φ:Act) (n:Nat) (x:Str) (Q:KV) (R:Sto→Prop) (ov:V) (σ:Sto):Prop
 | mk (a C:Addr) (fs:List (Str×V)) (f:Addr) (h:ov=.ref a) (e:σ a=some (.inst C fs)) (m:MetOk Φ.toCtx C x f) (nx:x∉fs.map (·.1)) (q:Call Φ.toCtx n (.ref f) [.ref a] σ Q R)
theorem SE_meth (ok:Φ.Ok n) {o e:Expr} {es:List Expr} {x:Str} {apos:Pos} {pl:Sem Bool}
  (hm:eval (.Call (.Attribute o x apos) (e::es) [] pos) Φ.env=(do
   let ov ← eval o Φ.env
   standAt apos.atName
   let (f,first) ← holding [ov] (getMethod ov x pl)
   callWith pos f first (backTo pos (starEach (e::es) Φ.env)) []))
  (he:starEach (e::es) Φ.env=(false,eval e Φ.env)::starEach es Φ.env) (hplain:(backTo pos (starEach es Φ.env)).any (·.1)=false)
  (h:SE Φ o M σ (kMe Φ n pos (e::es) x M Q R) R) :
  SE Φ (.Call (.Attribute o x apos) (e::es) [] pos) M σ Q R:=.mk <| .mk fun P s y =>
 MethodCall_ (h.then (.refl s) y fun ov σ₁ s₁ m₁ y₁ qf=>by
  obtain ⟨a,C,fs,f,eo,e1,hf,hx,h2⟩:=qf
  obtain rfl:=er_ref eo
  obtain ⟨dx,es',k,h1,h3,r,nd,I⟩:=y₁.inst e1
  obtain ⟨mm,F,N⟩:=y₁.fr
  refine method_inst F ok.ctx.X I hf.get hf.find hf.fn (r.absent hx) ?_
  exact callWith_at ok hf.keep he hplain m₁ y₁ h2 fun vs σ₂ s₂ m₂ y₂ q=>q.wp ok rfl m₂ y₂ fun _ r=>r) hm
theorem SE_meth0 (ok:Φ.Ok n) {o:Expr} {x:Str} {apos:Pos} {pl:Sem Bool}
  (hm:eval (.Call (.Attribute o x apos) [] [] pos) Φ.env=(do
   let ov ← eval o Φ.env
   standAt apos.atName
   let (f,first) ← holding [ov] (getMethod ov x pl)
   callWith pos f first (backTo pos (starEach [] Φ.env)) []))
  (h:SE Φ o M σ (kMe0 Φ n x Q (R M)) R) :
  SE Φ (.Call (.Attribute o x apos) [] [] pos) M σ Q R:=.mk <| .mk fun P s y =>
 MethodCall_ (h.then (.refl s) y fun ov σ₁ s₁ m₁ y₁ qf=>by
  obtain ⟨a,C,fs,f,eo,e1,hf,hx,h2⟩:=qf
  obtain rfl:=er_ref eo
  obtain ⟨dx,es',k,h1,h3,r,nd,I⟩:=y₁.inst e1
  obtain ⟨mm,F,N⟩:=y₁.fr
  refine method_inst F ok.ctx.X I hf.get hf.find hf.fn (r.absent hx) ?_
  exact callWith_at0 ok hf.keep y₁ (h2.wp ok rfl m₁ y₁ fun _ r=>r)) hm
end
section
variable {Φ:Act} {n:Nat} {P:PS} {M M':Loc} {σ:Sto} {Q:KV} {R:KL} {pos:Pos} {k:Nat} {F:KF}
noncomputable def dget (kvs:List (Int×V)) (k:Int):Option V:=(kvs.find? fun p=>p.1=k).map (·.2)
noncomputable def dset (kvs:List (Int×V)) (k:Int) (v:V):List (Int×V):=if kvs.any (fun p=>p.1=k) then kvs.map (fun p=>if p.1=k then (p.1,v) else p) else kvs++[(k,v)]
noncomputable def ddel (kvs:List (Int×V)) (k:Int):List (Int×V):=kvs.filter fun p=>decide (p.1≠k)
noncomputable abbrev erP (p:Int×Value):Int×V:=(p.1,er p.2)
theorem dget_map {kws:List (Int×Value)} {k:Int}:dget (kws.map erP) k=(valueAt kws k).map er:=by
 unfold dget valueAt
 induction kws with
 | nil=>rfl
 | cons p r ih =>
  simp only [List.map_cons,List.find?_cons]
  by_cases h:p.1=k
  ·simp [h]
  ·simp only [h,decide_false]; exact ih
theorem dset_map {kws:List (Int×Value)} {k:Int} {v:Value}:dset (kws.map erP) k (er v)=(stored kws k v).map erP:=by
 unfold dset stored
 have h:(kws.map erP).any (fun p=>decide (p.1=k))=kws.any (fun p=>decide (p.1=k)):=by rw [List.any_map]; rfl
 rw [h]
 split
 ·rw [List.map_map,List.map_map]
  refine List.map_congr_left fun p _=>?_
  show (if p.1=k then (p.1,er v) else erP p)=erP (if p.1=k then (p.1,v) else p)
  split <;> rfl
 ·simp
theorem ddel_map {kws:List (Int×Value)} {k:Int}:ddel (kws.map erP) k=(without kws k).map erP:=by
 unfold ddel without
 rw [List.filter_map]; rfl
inductive Sub (σ:Sto):V→V→V→Prop
 | list {a vs k v}:σ a=some (.list vs)→0≤k→k < 1000000→vs[k.toNat]?=some v→Sub σ (.ref a) (.int k) v
 | tuple {a vs k v}:σ a=some (.tuple vs)→0≤k→k < 1000000→vs[k.toNat]?=some v→Sub σ (.ref a) (.int k) v
 | dict {a kvs k v}:σ a=some (.dict kvs)→dget kvs k=some v→Sub σ (.ref a) (.int k) v
 | bytes {b k} {u:UInt8}:0≤k→k < 1000000→b.size < 1000000→b[k.toNat]?=some u→Sub σ (.bytes b) (.int k) (.int (u.toNat:Int))
theorem getItem_at {s s':Shared} {ov iv:Value} {v:V} (m:Sm s s') (y:St Φ P M σ s'.heap) (hs:Sub σ (er ov) (er iv) v) (q:Q v σ) :
  wpAny (model Φ.prog Φ.w) Φ.A (getItem ov iv) (PE Φ P M s Q) (PX Φ P s R) s':=by
 generalize e1:er ov=a at hs
 generalize e2:er iv=b at hs
 cases hs with
 | list h0 h1 h2 h3 =>
  obtain rfl:=er_ref e1
  obtain ⟨t,rfl⟩:=er_int e2
  obtain ⟨items,hl,rfl⟩:=y.list h0
  rw [List.getElem?_map] at h3
  obtain ⟨u,hu,rfl⟩:=Option.map_eq_some_iff.mp h3
  exact wpAny_getItem_list hl h1 (by (revert h1 h2; lia)) (by simpa using hu) ⟨m,σ,y,q⟩
 | tuple h0 h1 h2 h3 =>
  obtain rfl:=er_ref e1
  obtain ⟨t,rfl⟩:=er_int e2
  obtain ⟨items,hl,rfl⟩:=y.tuple h0
  rw [List.getElem?_map] at h3
  obtain ⟨u,hu,rfl⟩:=Option.map_eq_some_iff.mp h3
  obtain ⟨j,rfl⟩:=Int.eq_ofNat_of_zero_le h1
  have hj:j < items.length:=(List.getElem?_eq_some_iff.mp hu).1
  refine getItem_tuple hl (by (revert h1 h2; lia)) (by (revert h1 h2; lia)) (j:=j) ?_ (by simpa using hu) ⟨m,σ,y,q⟩
  unfold seqIndex?
  have hj0:¬ (j:Int) < 0:=by lia
  simp [hj0]
  (revert hj; lia)
 | dict h0 h1 =>
  obtain rfl:=er_ref e1
  obtain ⟨t,rfl⟩:=er_int e2
  obtain ⟨dx,⟨lo,kws,hd,rfl⟩,_⟩:=y.acc h0
  rw [show (fun p:Int×Value=>(p.1,er p.2))=erP from rfl,dget_map] at h1
  obtain ⟨u,hu,rfl⟩:=Option.map_eq_some_iff.mp h1
  exact wpAny_getItem_of (knd:=intKind Φ.prog Φ.w) (by simp [intKind,Value.isInt]) hd.mapOf hu ⟨m.trans ⟨rfl,rfl,rfl⟩,σ,y,q⟩
 | @bytes b k u h1 h2 h3 h4 =>
  obtain ⟨t,rfl⟩:=er_bytes e1
  obtain ⟨t2,rfl⟩:=er_int e2
  have hj:k.toNat < b.size:=(Array.getElem?_eq_some_iff.mp h4).1
  have hb:b=b.toList.toArray:=(Array.toArray_toList (xs:=b)).symm
  have hg:b.toList.getD k.toNat 0=u:=by
   rw [List.getD_eq_getElem?_getD]
   have:b.toList[k.toNat]?=some u:=by simpa using h4
   rw [this]; rfl
  rw [hb]
  exact getItem_bytes (by simp; (revert h3; lia)) h1 (by simp; (revert hj; lia)) ⟨m.trans ⟨rfl,rfl,rfl⟩,σ,y,by rw [hg]; exact q⟩
inductive kSub (ov:V) (Q:KV) (iv:V) (σ:Sto):Prop
 | mk (v:V) (h:Sub σ ov iv v) (q:Q v σ)
@[reducible] def kSub1 (Φ:Act) (i:Expr) (M:Loc) (Q:KV) (R:KL):KV:=fun ov σ=>SE Φ i M σ (kSub ov Q) R
inductive kSlF (ov:V) (Q:KV) (iv:V) (σ:Sto):Prop
 | mk (a:Addr) (vs:List V) (k:Int) (h:ov=.ref a) (i:iv=.int k) (h0:0≤k) (e:σ a=some (.list vs)) (l:vs.length≤1000000) (q:∀ c,σ c=none→Q (.ref c) (σ.set c (.list (vs.drop k.toNat))))
inductive kSlU (ov:V) (Q:KV) (iv:V) (σ:Sto):Prop
 | mk (a:Addr) (vs:List V) (k:Int) (h:ov=.ref a) (i:iv=.int k) (h0:0≤k) (e:σ a=some (.list vs)) (l:vs.length≤1000000) (q:∀ c,σ c=none→Q (.ref c) (σ.set c (.list (vs.take k.toNat))))
@[reducible] def kSlF1 (Φ:Act) (i:Expr) (M:Loc) (Q:KV) (R:KL):KV:=fun ov σ=>SE Φ i M σ (kSlF ov Q) R
@[reducible] def kSlU1 (Φ:Act) (i:Expr) (M:Loc) (Q:KV) (R:KL):KV:=fun ov σ=>SE Φ i M σ (kSlU ov Q) R
@[reducible] def kBc (Φ:Act) (f:Value) (M:Loc) (Q:KV) (R:KL):KA:=fun Vs σ=>∀ vals,vals.map er=Vs→SV Φ (call f vals) M σ Q R
theorem SE_sub {o i:Expr} (hs:∀ ov iv,subscripted i false ov iv=operate [ov,iv] (getItem ov iv))
  (hi:SE Φ o M σ (kSub1 Φ i M Q R) R):SE Φ (.Subscript o i pos) M σ Q R:=.mk <| .mk fun P s y =>
 Subscript_ (hi.then (.refl s) y fun ov σ₁ s₁ m₁ y₁ h₁=>h₁.then m₁ y₁ fun iv σ₂ s₂ m₂ y₂ qf=>by
  obtain ⟨v,hsub,q⟩:=qf
  have g:=getItem_at (R:=R) m₂ y₂ hsub q
  generalize e1:er ov=a at hsub
  generalize e2:er iv=b at hsub
  cases hsub with
  | list h0 h1 h2 h3 =>
   obtain rfl:=er_ref e1
   obtain ⟨items,hl,_⟩:=y₂.list h0
   exact tail_any hl.typeIs slot_list_getitem.lookup g (hs _ _)
  | tuple h0 h1 h2 h3 =>
   obtain rfl:=er_ref e1
   obtain ⟨items,hl,_⟩:=y₂.tuple h0
   exact tail_any hl.typeIs slot_tuple_getitem.lookup g (hs _ _)
  | dict h0 h1 =>
   obtain rfl:=er_ref e1
   obtain ⟨dx,⟨lo,kws,hd,_⟩,_⟩:=y₂.acc h0
   exact tail_any hd.typeIs slot_dict_getitem.lookup g (hs _ _)
  | bytes h1 h2 h3 h4 =>
   obtain ⟨t,rfl⟩:=er_bytes e1
   exact tail_any (typeIs_bytes _ _ _) FB.slot_bytes_getitem.lookup g (hs _ _))
theorem SE_slice_from {o i:Expr} {p:Pos} (ht:∀ ov r,letTemporaryGo o ov r=pure ())
  (h:SE Φ o M σ (kSlF1 Φ i M Q R) R) :
  SE Φ (.Subscript o (.Slice (some i) none none p) pos) M σ Q R:=.mk <| .mk fun P s y =>
 wpAny_Subscript_list_slice (h.then (.refl s) y fun ov σ₁ s₁ m₁ y₁ h₁=>wpAny_evalPart_some (h₁.then m₁ y₁ fun iv σ₂ s₂ m₂ y₂ qf=>by obtain ⟨a,vs,k,eo,ei,h0,e,hlen,q⟩:=qf; exact wpAny_evalPart_none (by
  obtain rfl:=er_ref eo
  obtain ⟨t,rfl⟩:=er_int ei
  obtain ⟨items,hl,rfl⟩:=y₂.list e
  simp only [List.length_map] at hlen
  refine ⟨a,items.toArray,some k,none,rfl,hl,by rw [sizeLine_eq]; simp; (revert hlen; lia),.int _ _,.none,?_⟩
  have hk:k=(k.toNat:Int):=by (revert h0; lia)
  rw [hk,slicePick_from' items.toArray k.toNat,← hk]
  have z1:=y₂.keeps (h':=s₂.heap.push { cls:=.type "slice",data:=.fields #[.int k t,.none,.none] }) fun b o e=>Heap.get?_push_of_some _ e
  have z:=z1.pushObj (s:={ s₂ with heap:=s₂.heap.push { cls:=.type "slice",data:=.fields #[.int k t,.none,.none] } }) (ob:={ cls:=.type "list",data:=.seq (items.toArray.toList.drop k.toNat).toArray }) (o:=.list ((items.map er).drop k.toNat)) rfl
   (fun h' e=>⟨items.drop k.toNat,0,e,by simp⟩) (by intro C fs q; cases q)
  have hsz:(s₂.heap.push { cls:=.type "slice",data:=.fields #[.int k t,.none,.none] }).objs.size=s₂.heap.objs.size+1:=Heap.size_push _ _
  dsimp only at z
  rw [hsz] at z
  exact ⟨m₂.trans ⟨rfl,rfl,rfl⟩,_,z.2,q _ z.1⟩))) ht
theorem SE_slice_upto {o i:Expr} {p:Pos} (ht:∀ ov r,letTemporaryGo o ov r=pure ())
  (h:SE Φ o M σ (kSlU1 Φ i M Q R) R) :
  SE Φ (.Subscript o (.Slice none (some i) none p) pos) M σ Q R:=.mk <| .mk fun P s y =>
 wpAny_Subscript_list_slice (h.then (.refl s) y fun ov σ₁ s₁ m₁ y₁ h₁=>wpAny_evalPart_none (wpAny_evalPart_some (h₁.then m₁ y₁ fun iv σ₂ s₂ m₂ y₂ qf=>by
  obtain ⟨a,vs,k,eo,ei,h0,e,hlen,q⟩:=qf
  obtain rfl:=er_ref eo
  obtain ⟨t,rfl⟩:=er_int ei
  obtain ⟨items,hl,rfl⟩:=y₂.list e
  simp only [List.length_map] at hlen
  refine ⟨a,items.toArray,none,some k,rfl,hl,by rw [sizeLine_eq]; simp; (revert hlen; lia),.none,.int _ _,?_⟩
  have hk:k=(k.toNat:Int):=by (revert h0; lia)
  rw [hk,slicePick_upto' items.toArray k.toNat,← hk]
  have z1:=y₂.keeps (h':=s₂.heap.push { cls:=.type "slice",data:=.fields #[.none,.int k t,.none] }) fun b o e=>Heap.get?_push_of_some _ e
  have z:=z1.pushObj (s:={ s₂ with heap:=s₂.heap.push { cls:=.type "slice",data:=.fields #[.none,.int k t,.none] } }) (ob:={ cls:=.type "list",data:=.seq (items.toArray.toList.take k.toNat).toArray }) (o:=.list ((items.map er).take k.toNat)) rfl
   (fun h' e=>⟨items.take k.toNat,0,e,by simp⟩) (by intro C fs q; cases q)
  have hsz:(s₂.heap.push { cls:=.type "slice",data:=.fields #[.none,.int k t,.none] }).objs.size=s₂.heap.objs.size+1:=Heap.size_push _ _
  dsimp only at z
  rw [hsz] at z
  exact ⟨m₂.trans ⟨rfl,rfl,rfl⟩,_,z.2,q _ z.1⟩))) ht
theorem SE_bcall (ok:Φ.Ok n) {x:Str} {np:Pos} {id:String} {e:Expr} {es:List Expr} (hx:(x,NameKind.globalImplicit)∈Φ.env.scope.names) (hg:Glob Φ.toCtx x (.builtin id)) (he:starEach (e::es) Φ.env=(false,eval e Φ.env)::starEach es Φ.env) (hplain:(backTo pos (starEach es Φ.env)).any (·.1)=false)
  (h:SA Φ pos (e::es) M σ (kBc Φ (.builtin id) M Q R) R):SE Φ (.Call (.Name x np) (e::es) [] pos) M σ Q R:=.mk <| .mk fun P s y =>
 Call_ (glob_raw ok hx hg y (callWith_method1 (h.then (.refl s) y fun vs σ₁ s₁ m₁ y₁ q=>(q vs rfl).at m₁ y₁) he hplain))
theorem SE_tcall (ok:Φ.Ok n) {x:Str} {np:Pos} {T:String} {e:Expr} {es:List Expr} (hx:(x,NameKind.globalImplicit)∈Φ.env.scope.names) (hg:Glob Φ.toCtx x (.type T)) (he:starEach (e::es) Φ.env=(false,eval e Φ.env)::starEach es Φ.env) (hplain:(backTo pos (starEach es Φ.env)).any (·.1)=false)
  (h:SA Φ pos (e::es) M σ (kBc Φ (.type T) M Q R) R):SE Φ (.Call (.Name x np) (e::es) [] pos) M σ Q R:=.mk <| .mk fun P s y =>
 Call_ (glob_raw ok hx hg y (PyProof.Rows.callWith_type1 (h.then (.refl s) y fun vs σ₁ s₁ m₁ y₁ q=>(q vs rfl).at m₁ y₁) he hplain))
theorem map_er1 {vals:List Value} {a:V} (h:vals.map er=[a]):∃ v,vals=[v]∧er v=a:=by
 obtain ⟨v,l,rfl,e,h⟩:=List.map_eq_cons_iff.mp h
 cases List.map_eq_nil_iff.mp h
 exact ⟨v,rfl,e⟩
theorem map_er2 {vals:List Value} {a b:V} (h:vals.map er=[a,b]):∃ v w,vals=[v,w]∧er v=a∧er w=b:=by
 obtain ⟨v,l,rfl,e,h⟩:=List.map_eq_cons_iff.mp h
 obtain ⟨w,rfl,e'⟩:=map_er1 h
 exact ⟨v,w,rfl,e,e'⟩
theorem map_er3 {vals:List Value} {a b c:V} (h:vals.map er=[a,b,c]):∃ v w x,vals=[v,w,x]∧er v=a∧er w=b∧er x=c:=by
 obtain ⟨v,l,rfl,e,h⟩:=List.map_eq_cons_iff.mp h
 obtain ⟨w,x,rfl,e',e2⟩:=map_er2 h
 exact ⟨v,w,x,rfl,e,e',e2⟩
theorem St.exact {h:Heap} {l:Addr} {vs:List V} (y:St Φ P M σ h) (e:σ l=some (.list vs)):∃ (items:List Value) (n:Nat),h.get? l=some (listOf items.toArray n)∧items.map er=vs:=by
 obtain ⟨dx,⟨items,n,ho,r⟩,_⟩:=y.acc e; exact ⟨items,n,ho,r⟩
theorem b_len_list {a:Addr} {vs:List V} (e:σ a=some (.list vs)) (hl:vs.length < 1000000000) (q:Q (.int vs.length) σ):∀ vals,vals.map er=[.ref a]→SV Φ (call (.builtin "len") vals) M σ Q R:=by
 intro vals hv
 refine .mk fun P s y=>?_
 obtain ⟨v,rfl,ev⟩:=map_er1 hv
 obtain rfl:=er_ref ev
 obtain ⟨items,hli,rfl⟩:=y.list e
 simp only [List.length_map] at hl
 refine call_len_list hli (by simp; (revert hl; lia)) ⟨⟨rfl,rfl,rfl⟩,σ,y,?_⟩
 have e2:((items.toArray.size:Nat):Int)=((items.map er).length:Int):=by simp
 show Q (.int (items.toArray.size:Nat)) σ
 rw [e2]; exact q
theorem b_len_bytes {b:Array UInt8} (hl:b.size < 1000000000) (q:Q (.int b.size) σ):∀ vals,vals.map er=[.bytes b]→SV Φ (call (.builtin "len") vals) M σ Q R:=by
 intro vals hv
 refine .mk fun P s y=>?_
 obtain ⟨v,rfl,ev⟩:=map_er1 hv
 obtain ⟨t,rfl⟩:=er_bytes ev
 exact len_bytes (by (revert hl; lia)) ⟨⟨rfl,rfl,rfl⟩,σ,y,q⟩
theorem cop_is_none {a:V} (q:Q (.bool (match a with | .none=>true | _=>false)) σ):∀ av bv,er av=a→er bv=V.none→SV Φ (compareOp .Is av bv) M σ Q R:=by
 intro av bv ea eb
 refine .mk fun P s y=>?_
 obtain rfl:=er_none eb
 subst ea
 cases av with
 | none=>exact wpAny_is_self rfl ⟨.refl s,σ,y,q⟩
 | _=>exact is_none_ne (by intro x; cases x) ⟨.refl s,σ,y,q⟩
theorem cop_isnot_none {a:V} (q:Q (.bool (match a with | .none=>false | _=>true)) σ):∀ av bv,er av=a→er bv=V.none→SV Φ (compareOp .IsNot av bv) M σ Q R:=by
 intro av bv ea eb
 refine .mk fun P s y=>?_
 obtain rfl:=er_none eb
 subst ea
 cases av with
 | none=>exact wpAny_isNot_self rfl ⟨.refl s,σ,y,q⟩
 | _=>exact isnot_none_ne (by intro x; cases x) ⟨.refl s,σ,y,q⟩
theorem St.turn {s:Shared} {a:Addr} {vs:List V} (y:St Φ P M σ s.heap) (e:σ a=some (.list vs)) :
  ∃ (m:Str→Option Value) (items:List Value) (nn:Nat) (pre post:List (Addr×Obj)),Fr Φ.base Φ.L s.heap m∧items.map er=vs∧s.heap.get? a=some (listOf items.toArray nn)∧News Φ.base Φ.L s.heap (pre++(a,listOf items.toArray nn)::post) ∧
   (∀ p∈pre,p.1≠a)∧(∀ p∈post,p.1≠a) ∧
   ∀ h' (items':List Value) nn',Fr Φ.base Φ.L h' m→News Φ.base Φ.L h' (pre++(a,listOf items'.toArray nn')::post)→St Φ P M (σ.set a (.list (items'.map er))) h':=by
 obtain ⟨m,F,N⟩:=y.fr
 obtain ⟨dx,⟨items,nn,ho,r⟩,hfp,hne,acc⟩:=y.upd F N e
 have ha:=hfp a (fp_self _ _ _)
 obtain ⟨pre,post,e0,g1,g2⟩:=split_mem allNews_nodup (allNews_mem.mpr ⟨ho,ha.2,ha.1⟩)
 refine ⟨m,items,nn,pre,post,F,r,ho,e0▸allNews_news,g1,g2,fun h' items' nn' F' N'=>?_⟩
 refine acc a (fp_self _ _ _) h' _ F' (fun b ob hb hbL eb=>?_) ⟨items',nn',(N' _ (List.mem_append.mpr (.inr (.head _)))).1,rfl⟩ rfl (fun C fs q=>by cases q)
 cases hbase:Φ.base.get? b with
 | some o' =>
  have:=F.keep b o' hbase
  rw [eb] at this; cases this
  exact F'.keep b _ hbase
 | none =>
  have hmem:(b,ob)∈pre++(a,listOf items.toArray nn)::post:=e0▸allNews_mem.mpr ⟨eb,hbL,hbase⟩
  rcases List.mem_append.mp hmem with h3 | h3
  ·exact (N' _ (List.mem_append.mpr (.inl h3))).1
  ·rcases List.mem_cons.mp h3 with h4 | h4
   ·cases h4; exact absurd rfl hb
   ·exact (N' _ (List.mem_append.mpr (.inr (.tail _ h4)))).1
theorem l_append {a:Addr} {vs:List V} {v:V} (e:σ a=some (.list vs)) (hl:vs.length < 1000000) (q:Q .none (σ.set a (.list (vs++[v])))):∀ vals,vals.map er=[.ref a,v]→SV Φ (call (.builtin "list.append") vals) M σ Q R:=by
 intro vals hv
 refine .mk fun P s y=>?_
 obtain ⟨u,w,rfl,eu,ew⟩:=map_er2 hv
 obtain rfl:=er_ref eu
 obtain ⟨m,items,nn,pre,post,F,rfl,ho,N,g1,g2,fin⟩:=y.turn e
 simp only [List.length_map] at hl
 refine append_K F N (Upd.of g1 g2) (fun h' F' N'=>⟨⟨rfl,rfl,rfl⟩,_,?_,q⟩) (by rw [sizeLine_eq]; simp; (revert hl; lia))
 have:=fin h' (items++[w]) (nn+1) F' (by simpa using N')
 simpa [ew] using this
theorem l_pop {a:Addr} {vs:List V} {v:V} (e:σ a=some (.list (vs++[v]))) (hl:vs.length < 1000000) (q:Q v (σ.set a (.list vs))):∀ vals,vals.map er=[.ref a]→SV Φ (call (.builtin "list.pop") vals) M σ Q R:=by
 intro vals hv
 refine .mk fun P s y=>?_
 obtain ⟨u,rfl,eu⟩:=map_er1 hv
 obtain rfl:=er_ref eu
 obtain ⟨m,items,nn,pre,post,F,r,ho,N,g1,g2,fin⟩:=y.turn e
 have hne:items≠[]:=by intro q; rw [q] at r; simp at r
 obtain ⟨p,x,rfl⟩:∃ p x,items=p++[x]:=⟨items.dropLast,items.getLast hne,(List.dropLast_concat_getLast hne).symm⟩
 rw [List.map_append] at r
 obtain ⟨r1,r2⟩:=List.append_inj' r rfl
 have hx:er x=v:=by simpa using r2
 subst r1
 simp only [List.length_map] at hl
 refine kl_pop F N (p:=p) (y:=x) (by simpa using kpa_last x p) (Upd.of g1 g2) (by rw [sizeLine_eq]; simp; (revert hl; lia)) fun h' F' N'=>⟨⟨rfl,rfl,rfl⟩,_,fin h' p (nn+1) F' N',?_⟩
 rw [hx]; exact q
theorem l_insert {a:Addr} {vs:List V} {v:V} {i:Int} (e:σ a=some (.list vs)) (h0:0≤i) (hi:i≤vs.length) (hl:vs.length < 1000000) (q:Q .none (σ.set a (.list (vs.take i.toNat++v::vs.drop i.toNat)))) :
  ∀ vals,vals.map er=[.ref a,.int i,v]→SV Φ (call (.builtin "list.insert") vals) M σ Q R:=by
 intro vals hv
 refine .mk fun P s y=>?_
 obtain ⟨u,j,w,rfl,eu,ej,ew⟩:=map_er3 hv
 obtain rfl:=er_ref eu
 obtain ⟨t,rfl⟩:=er_int ej
 obtain ⟨m,items,nn,pre,post,F,rfl,ho,N,g1,g2,fin⟩:=y.turn e
 simp only [List.length_map] at hl hi
 refine kl_insert F N (l:=items.take i.toNat++w::items.drop i.toNat) (by unfold Builtin.List.listFitsIndex; simp; (revert h0 hl hi; lia)) ?_ (Upd.of g1 g2) (by rw [sizeLine_eq]; simp; (revert hl; lia)) fun h' F' N'=>⟨⟨rfl,rfl,rfl⟩,_,fin h' _ (nn+1) F' N',?_⟩
 ·unfold kl_ins
  have h1:¬ i < 0:=by (revert h0; lia)
  have h2:min i.toNat items.length=i.toNat:=Nat.min_eq_left (by (revert h0 hl hi; lia))
  simp [h1,h2]
 ·show Q .none _
  simpa [ew,List.map_take,List.map_drop] using q
end
section
variable {Φ:Act} {n:Nat} {P:PS} {M M':Loc} {σ:Sto} {Q:KV} {R:KL} {pos:Pos} {k:Nat} {F:KF}
theorem prot_cons {I:Addr} {p:Obj→Prop}:prot Φ ((I,p)::P)=Φ.L::(Φ.comp.toList++(Φ.cells++I::P.map (·.1))):=rfl
theorem mem_prot_cons {I b:Addr} {p:Obj→Prop}:b∈prot Φ ((I,p)::P)↔b=I∨b∈prot Φ P:=by
 simp only [prot,List.mem_cons,List.mem_append,List.map_cons]
 constructor
 ·rintro (h | h | h | h | h)
  ·exact .inr (.inl h)
  ·exact .inr (.inr (.inl h))
  ·exact .inr (.inr (.inr (.inl h)))
  ·exact .inl h
  ·exact .inr (.inr (.inr (.inr h)))
 ·rintro (h | h | h | h | h)
  ·exact .inr (.inr (.inr (.inl h)))
  ·exact .inl h
  ·exact .inr (.inl h)
  ·exact .inr (.inr (.inl h))
  ·exact .inr (.inr (.inr (.inr h)))
theorem nodup_prot_cons {I:Addr} {p:Obj→Prop}:(prot Φ ((I,p)::P)).Nodup↔I∉prot Φ P∧(prot Φ P).Nodup:=by
 have perm:(prot Φ ((I,p)::P)).Perm (I::prot Φ P):=by
  have e1:prot Φ ((I,p)::P)=(Φ.L::(Φ.comp.toList++Φ.cells))++I::P.map (·.1):=by
   rw [prot_cons]; simp
  have e2:prot Φ P=(Φ.L::(Φ.comp.toList++Φ.cells))++P.map (·.1):=by simp [prot]
  rw [e1,e2]
  exact List.perm_middle
 rw [perm.nodup_iff,List.nodup_cons]
theorem St.addP {h:Heap} {I:Addr} {p:Obj→Prop} (y:St Φ P M σ h) (hb:Φ.base.get? I=none) (hp:I∉prot Φ P) (hf:∀ δ,HRel Φ.toCtx σ h δ→(∀ a o,σ a=some o→∀ b∈fp a (δ a) o,Φ.base.get? b=none∧b∉prot Φ P)→∀ a o,σ a=some o→I∉fp a (δ a) o)
  (ho:∃ o,h.get? I=some o∧p o):St Φ ((I,p)::P) M σ h:=by
 obtain ⟨fr,ps,⟨δ,Rr,hb'⟩,nd,old,out⟩:=y
 refine ⟨fr,fun q hq=>?_,⟨δ,Rr,fun a o e b hm=>⟨(hb' a o e b hm).1,fun q=>?_⟩⟩,nodup_prot_cons.mpr ⟨hp,nd⟩,fun b hm=>?_,fun env he=>?_⟩
 ·rcases List.mem_cons.mp hq with rfl | hq
  ·exact ho
  ·exact ps q hq
 ·rcases mem_prot_cons.mp q with rfl | q
  ·exact hf δ Rr hb' a o e hm
  ·exact (hb' a o e b hm).2 q
 ·rcases mem_prot_cons.mp hm with rfl | hm
  ·exact hb
  ·exact old b hm
 ·obtain ⟨h1,L,h2,m,h3⟩:=out env he
  exact ⟨h1,L,h2,m,.tail _ h3⟩
theorem St.dropP {h:Heap} {I:Addr} {p:Obj→Prop} (y:St Φ ((I,p)::P) M σ h) (out:∀ env∈Φ.outer,env.scope.kind≠.module∧∃ L,env.frame=some L∧∃ m,(L,NsP m)∈P) :
  St Φ P M σ h∧Φ.base.get? I=none∧I∉prot Φ P∧(∀ δ,HRel Φ.toCtx σ h δ→(∀ a o,σ a=some o→∀ b∈fp a (δ a) o,Φ.base.get? b=none∧b∉prot Φ P)→∀ a o,σ a=some o→I∉fp a (δ a) o)∧∃ o,h.get? I=some o∧p o:=by
 obtain ⟨fr,ps,⟨δ,Rr,hb'⟩,nd,old,_⟩:=y
 obtain ⟨n1,n2⟩:=nodup_prot_cons.mp nd
 refine ⟨⟨fr,fun q hq=>ps q (.tail _ hq),⟨δ,Rr,fun a o e b hm=>⟨(hb' a o e b hm).1,fun q=>(hb' a o e b hm).2 (mem_prot_cons.mpr (.inr q))⟩⟩,n2,fun b hm=>old b (mem_prot_cons.mpr (.inr hm)),out⟩,
  old I (mem_prot_cons.mpr (.inl rfl)),n1,fun δ2 R2 h2 a o e hm=>?_,ps _ (.head _)⟩
 -- the footprint is told by the heap
 cases o with
 | inst C fs =>
  simp [fp] at hm
  obtain ⟨g1,es,k,g2,_⟩:=Rr.rel a _ e
  obtain ⟨g3,_⟩:=R2.rel a _ e
  rw [g1] at g3
  injection g3 with g3
  injection g3 with _ g3 _ _
  injection g3 with g3
  rcases hm with hm | hm
  ·exact (hb' a _ e a (fp_self _ _ _)).2 (mem_prot_cons.mpr (.inl hm.symm))
  ·exact (hb' a _ e (δ a) (by simp [fp])).2 (mem_prot_cons.mpr (.inl (by rw [g3,hm])))
 | _=>exact (hb' a _ e _ hm).2 (mem_prot_cons.mpr (.inl rfl))
theorem PX.dropP {I:Addr} {p:Obj→Prop} {s s':Shared} {x:Value} (out:∀ env∈Φ.outer,env.scope.kind≠.module∧∃ L,env.frame=some L∧∃ m,(L,NsP m)∈P) (h:PX Φ ((I,p)::P) s R x s'):PX Φ P s R x s':=by
 obtain ⟨m,M',σ',e,rfl,hR,hx⟩:=h
 refine ⟨m,M',σ',e,rfl,hR,?_⟩
 rcases hx with ⟨h₀,vs,y₀,hx⟩ | ⟨B,t,h₀,y₀,hB,u,f⟩ | ⟨B,t,h₀,y₀,hB,u,f⟩
 ·exact .inl ⟨h₀,vs,(y₀.dropP out).1,hx⟩
 ·exact .inr (.inl ⟨B,t,h₀,(y₀.dropP out).1,hB,u,f⟩)
 ·exact .inr (.inr ⟨B,t,h₀,(y₀.dropP out).1,hB,u,f⟩)
theorem St.hid {s:Shared} {ob:Obj} (y:St Φ P M σ s.heap) (hf:ob.isFreed=false):St Φ ((s.heap.objs.size,fun o=>o=ob)::P) M σ (s.heap.push ob):=by
 have y1:=y.keeps (h':=s.heap.push ob) fun b o e=>Heap.get?_push_of_some _ e
 have hn:s.heap.get? s.heap.objs.size=none:=none_size (Nat.le_refl _)
 refine y1.addP ?_ ?_ (fun δ Rr hb a o e hm=>?_) ⟨_,Heap.get?_push_size _ hf,rfl⟩
 ·obtain ⟨m,F,N⟩:=y.fr
  cases q:Φ.base.get? s.heap.objs.size with
  | none=>rfl
  | some o=>rw [F.keep _ _ q] at hn; cases hn
 ·intro hm
  obtain ⟨o,ho⟩:=y.has _ hm
  rw [hn] at ho; cases ho
 ·obtain ⟨δ0,R0,h0⟩:=y.st
  cases o with
  | inst C fs =>
   simp [fp] at hm
   obtain ⟨g1,es,k,g2,_⟩:=R0.rel a _ e
   obtain ⟨g3,_⟩:=Rr.rel a _ e
   rw [Heap.get?_push_of_some _ g1] at g3
   injection g3 with g3
   injection g3 with _ g3 _ _
   injection g3 with g3
   rcases hm with hm | hm
   ·rw [← hm,hn] at g1; cases g1
   ·rw [g3,← hm,hn] at g2; cases g2
  | _ =>
   have hm':=hm
   simp [fp] at hm'
   obtain ⟨ob',hob⟩:=(R0.rel a _ e).some a (fp_self _ _ _)
   rw [← hm',hn] at hob; cases hob
structure SG (Φ:Act) (t:Value→Sem Unit) (v:V) (M:Loc) (σ:Sto) (K:KL) (R:KL):Prop where
 to:∀ (P:PS) (s:Shared) (u:Value),er u=v→St Φ P M σ s.heap→wpAny (model Φ.prog Φ.w) Φ.A (t u) (fun _ s'=>Sm s s'∧∃ M' σ',St Φ P M' σ' s'.heap∧K M' σ') (PX Φ P s R) s
theorem SG_name (ok:Φ.Ok n) {x:Str} {p:Pos} {v:V} {K:KL} (hs:SetV Φ.vars M x v M') (q:K M' σ):SG Φ (assign (.Name x p) Φ.env) v M σ K R:=.mk fun P s u eu y =>
 wpAny_assign_Name (y.storeName ok (eu▸hs) fun s' m y'=>⟨m,M',σ,y',q⟩)
class inductive SetVs:Vars→Loc→List Expr→List V→Loc→Prop
 | nil {vs M}:SetVs vs M [] [] M
 | cons {vs M x p v M' es Vs M''}:SetV vs M x v M'→SetVs vs M' es Vs M''→SetVs vs M (.Name x p::es) (v::Vs) M''
theorem SetVs.names {vs:Vars} {es:List Expr} {Vs:List V} (h:SetVs vs M es Vs M') {env:Env}:assignEach es env=es.map fun e=>(false,assign e env):=by
 induction h with
 | nil=>rfl
 | cons _ _ ih=>show (false,assign _ env)::assignEach _ env=_; rw [ih]; rfl
theorem SetVs.length {vs:Vars} {es:List Expr} {Vs:List V} (h:SetVs vs M es Vs M'):es.length=Vs.length:=by
 induction h with
 | nil=>rfl
 | cons _ _ ih=>simp [ih]
theorem inOrder (ok:Φ.Ok n) {E:Value→Shared→Prop} {es:List Expr} {Vs:List V} {Qf:Unit→Shared→Prop} (h:SetVs Φ.vars M es Vs M'):∀ {items:List Value} {s:Shared},items.map er=Vs→St Φ P M σ s.heap →
  (∀ s',Sm s s'→St Φ P M' σ s'.heap→Qf () s')→wpAny (model Φ.prog Φ.w) Φ.A (assignInOrder (es.map fun e=>assign e Φ.env) items) Qf E s:=by
 generalize hv:Φ.vars=vs at h
 induction h with
 | nil =>
  intro items s hi y q
  cases items with
  | nil=>exact wpAny_assignInOrder_none (q s (.refl s) y)
  | cons=>cases hi
 | cons h1 _ ih =>
  intro items s hi y q
  cases items with
  | nil=>cases hi
  | cons v items =>
   rw [List.map_cons,List.cons.injEq] at hi
   subst hv
   refine wpAny_assignInOrder_more (wpAny_assign_Name (y.storeName ok (hi.1▸h1) fun s₁ m₁ y₁=>?_))
   exact ih hi.2 y₁ fun s₂ m₂ y₂=>q s₂ (m₁.trans m₂) y₂
theorem SG_tuple (ok:Φ.Ok (n+1)) {es:List Expr} {kk:Nat} {p:Pos} {a:Addr} {Vs:List V} {K:KL} (e:σ a=some (.tuple Vs)) (hs:SetVs Φ.vars M es Vs M') (q:K M' σ):SG Φ (assign (.Tuple es kk p) Φ.env) (.ref a) M σ K R:=by
 refine .mk fun P s u eu y=>?_
 obtain rfl:=er_ref eu
 obtain ⟨items,ht,hi⟩:=y.tuple e
 have hlen:=hs.length
 have hil:items.length=Vs.length:=by rw [← hi,List.length_map]
 refine wpAny_assign_Tuple (ok.hand (Nat.succ_ne_zero _)) ht ?_ ?_ fun h' ext=>?_
 ·rw [hs.names,List.length_map,List.size_toArray,hlen,hil]
 ·rw [hs.names]
  rw [List.findIdx?_eq_none_iff]
  intro x hx
  obtain ⟨e',_,rfl⟩:=List.mem_map.mp hx
  rfl
 ·have hfun:((assignEach es Φ.env).map (·.2))=es.map fun e=>assign e Φ.env:=by rw [hs.names,List.map_map]; rfl
  rw [hfun]
  have y':St Φ P M σ h':=y.keeps fun b o eb=>ext b o (fun q=>by rw [q,none_size (Nat.le_refl _)] at eb; cases eb) eb
  exact inOrder ok hs (s:={ s with heap:=h' }) (by simpa using hi) y' fun s' m y2=>⟨⟨m.gens,m.drawn,m.os⟩,M',σ,y2,q⟩
inductive kUn (vs:Vars) (M:Loc) (es:List Expr) (F:KF) (v:V) (σ:Sto):Prop
 | mk (a:Addr) (Vs:List V) (M':Loc) (h:v=.ref a) (e:σ a=some (.tuple Vs)) (s:SetVs vs M es Vs M') (q:F .next M' σ)
theorem SX_unpack (ok:Φ.Ok (n+1)) {es:List Expr} {kk:Nat} {p:Pos} {e:Expr} (hs:swapsWithSole [.Tuple es kk p] e pos.line Φ.env=pure false) (hw:swappedStores [.Tuple es kk p] e Φ.env=pure none)
  (h:SE Φ e M σ (kUn Φ.vars M es F) R):SX Φ (.Assign [.Tuple es kk p] e pos) M σ F R:=.mk <| .mk fun P s y =>
 Assign_Tuple (h.then (.refl s) y fun v σ₁ s₁ m₁ y₁ qf=>by
  obtain ⟨a,Vs,M',ev,e1,hset,q⟩:=qf
  refine wpAny_mono ((SG_tuple (R:=R) (K:=fun M2 σ2=>F .next M2 σ2) ok e1 hset q).1 P s₁ v ev y₁) (fun _ s₂ qc=>by obtain ⟨m₂,M2,σ2,y₂,q2⟩:=qc; exact ⟨m₁.trans m₂,M2,σ2,y₂,q2⟩) fun _ _ x=>x.trans m₁) hs hw
@[reducible] def kFB (G:KL) (F:KF):KF:=fun fl M σ=>match fl with | .next=>G M σ | .cont=>G M σ | .ret v=>F (.ret v) M σ
@[reducible] def kSb (Φ:Act) (body:List Stmt) (F:KF) (R:KL):KL:=fun M σ=>SS Φ body M σ F R
noncomputable def ForG (Φ:Act) (target:Expr) (body:List Stmt) (src:Sto→Prop) (F:KF) (R:KL):List V→KL
 | [],M,σ=>src σ∧F .next M σ
 | v::rest,M,σ=>src σ∧SG Φ (assign target Φ.env) v M σ (kSb Φ body (kFB (ForG Φ target body src F R rest) F) R) R
theorem ForG.src {target:Expr} {body:List Stmt} {src:Sto→Prop} {rest:List V} (h:ForG Φ target body src F R rest M σ):src σ:=by
 cases rest <;> exact h.1
structure Stepper (Φ:Act) (target:Expr) (I:Addr) (src:Sto→Prop) (vs:List V) (IO:Nat→Obj→Prop):Prop where
 item:∀ i v P M σ (s:Shared) (Qn:Option Value→Shared→Prop) (E:Value→Shared→Prop),vs[i]?=some v→St Φ P M σ s.heap→src σ→(∃ o,s.heap.get? I=some o∧IO i o)→(∀ l,(∃ vs,σ l=some (.list vs))→l≠I) →
  (∀ u h' tk,er u=v→(∃ o,h'.get? I=some o∧IO (i+1) o)→(∀ b o,b≠I→s.heap.get? b=some o→h'.get? b=some o)→Qn (some u) { s with heap:=h',toks:=tk })→wpAny (model Φ.prog Φ.w) Φ.A (pyNext (.ref I)) Qn E s
 done:∀ P M σ (s:Shared) (Qn:Option Value→Shared→Prop) (E:Value→Shared→Prop),St Φ P M σ s.heap→src σ→(∃ o,s.heap.get? I=some o∧IO vs.length o)→(∀ l,(∃ vs,σ l=some (.list vs))→l≠I) →
  (∀ h' tk,(∀ b o,b≠I→s.heap.get? b=some o→h'.get? b=some o)→Qn none { s with heap:=h',toks:=tk })→wpAny (model Φ.prog Φ.w) Φ.A (pyNext (.ref I)) Qn E s
 letGo:∀ i u (s:Shared) (Qn:Unit→Shared→Prop) (E:Value→Shared→Prop),(∃ o,s.heap.get? I=some o∧IO i o)→Qn () s→wpAny (model Φ.prog Φ.w) Φ.A (letOwnedTupleGo target (.ref I) u) Qn E s
inductive FI (Φ:Act) (target:Expr) (body:List Stmt) (src:Sto→Prop) (F:KF) (R:KL) (vs:List V) (IO:Nat→Obj→Prop) (P:PS) (I:Addr) (s₀:Shared):Nat→Shared→Prop
 | mk {i:Nat} {rest:List V} {M:Loc} {σ:Sto} {s:Shared} (hi:vs.drop i=rest) (hil:i≤vs.length) (m:Sm s₀ s) (h:ForG Φ target body src F R rest M σ) (y:St Φ ((I,IO i)::P) M σ s.heap):FI Φ target body src F R vs IO P I s₀ rest.length s
theorem for_sound (ok:Φ.Ok n) (hc:Φ.comp=none) {target:Expr} {body:List Stmt} {I:Addr} {src:Sto→Prop} {vs:List V} {IO:Nat→Obj→Prop} (S:Stepper Φ target I src vs IO) {s₀:Shared} {i:Nat} {rest:List V} (hi:vs.drop i=rest) (hil:i≤vs.length)
  (out:∀ env∈Φ.outer,env.scope.kind≠.module∧∃ L,env.frame=some L∧∃ m,(L,NsP m)∈P)
  {s:Shared} (m:Sm s₀ s) (h:ForG Φ target body src F R rest M σ) (y:St Φ ((I,IO i)::P) M σ s.heap) :
  codeAny (model Φ.prog Φ.w) Φ.A (.forLoop target (.ref I) body [] Φ.env) (fun r s'=>match r with | .ok f=>PF Φ P s₀ F f s' | .error e=>cameBackBy (model Φ.prog Φ.w) Φ.A Φ.env (PX Φ P s₀ R) e s') s:=by
 refine codeAny_forLoop_any (FI Φ target body src F R vs IO P I s₀) ?_ rest.length (.mk hi hil m h y)
 rintro _ s (@⟨i,rest,M,σ,_,hi,hil,m,h,y⟩)
 obtain ⟨y0,hb,hp,hf,ho⟩:=y.dropP out
 have hne:∀ l,(∃ vs,σ l=some (.list vs))→l≠I:=fun l qb q=>by
  obtain ⟨vs',e⟩:=qb
  obtain ⟨δ,Rr,hbb⟩:=y0.st
  exact hf δ Rr hbb l _ e (by rw [← q]; exact fp_self _ _ _)
 have pass:∀ {α:Type} {t:Sem α} {Qt:α→Shared→Prop} {s:Shared},wpAny (model Φ.prog Φ.w) Φ.A t Qt (PX Φ P s₀ R) s →
   wpAny (model Φ.prog Φ.w) Φ.A t Qt (notedBy (model Φ.prog Φ.w) Φ.A Φ.env fun e s'=>cameBackBy (model Φ.prog Φ.w) Φ.A Φ.env (PX Φ P s₀ R) e s') s:=fun h=>wpAny_passesOwn (PX.passes ok hc) h
 cases rest with
 | nil =>
  have hil':vs.length≤i:=List.drop_eq_nil_iff.mp hi
  have hii:i=vs.length:=Nat.le_antisymm hil hil'
  subst hii
  refine S.done P M σ s _ _ y0 h.src ho hne fun h' tk k=>?_
  dsimp only
  exact pass (wpAny_execs_nil ⟨m.trans ⟨rfl,rfl,rfl⟩,M,σ,y0.but hb hp hf k,h.2⟩)
 | cons v rest =>
  have hv:vs[i]?=some v:=by
   have:=congrArg (·[0]?) hi
   simpa using this
  have hi':vs.drop (i+1)=rest:=by
   rw [← List.drop_drop,hi]; rfl
  refine S.item i v P M σ s _ _ hv y0 h.src ho hne fun u h₁ tk eu ho₁ k=>?_
  dsimp only
  have y1:=y0.but (h':=h₁) hb hp hf k
  -- the footprint lies off I in the new heap too
  have y2:St Φ ((I,IO (i+1))::P) M σ h₁:=y1.addP hb hp (fun δ Rr hbb a o e hm=>by
   obtain ⟨δ0,R0,h0⟩:=y0.st
   cases o with
   | inst C fs =>
    simp [fp] at hm
    obtain ⟨g1,es,kk,g2,_⟩:=R0.rel a _ e
    obtain ⟨g3,_⟩:=Rr.rel a _ e
    have hIa:a≠I:=fun q=>hf δ0 R0 h0 a _ e (by rw [← q]; exact fp_self _ _ _)
    rw [k a _ hIa g1] at g3
    injection g3 with g3
    injection g3 with _ g3 _ _
    injection g3 with g3
    rcases hm with hm | hm
    ·exact hIa hm.symm
    ·exact hf δ0 R0 h0 a _ e (by rw [hm,← g3]; simp [fp])
   | _=>exact hf δ0 R0 h0 a _ e hm) ho₁
  refine pass ?_
  refine S.letGo (i+1) u { s with heap:=h₁,toks:=tk } _ _ ho₁ ?_
  refine pass ?_
  have m1:Sm s₀ { s with heap:=h₁,toks:=tk }:=⟨m.gens,m.drawn,m.os⟩
  have hg:=h.2.1 ((I,IO (i+1))::P) { s with heap:=h₁,toks:=tk } u eu y2
  have hi1:i+1≤vs.length:=(List.getElem?_eq_some_iff.mp hv).1
  refine wpAny_mono hg (fun _ s₂ qq=>?_) fun _ _ x=>(x.dropP out).trans m1
  obtain ⟨m₂,M₂,σ₂,y₂,q₂⟩:=qq
  refine pass ?_
  refine wpAny_mono (q₂.1.1 ((I,IO (i+1))::P) s₂ y₂) (fun fl s₃ qq=>?_) fun _ _ x=>(x.dropP out).trans (m1.trans m₂)
  obtain ⟨m₃,M₃,σ₃,y₃,q₃⟩:=qq
  cases fl with
  | next=>exact ⟨rest.length,Nat.lt_succ_self _,.mk hi' hi1 (m1.trans (m₂.trans m₃)) q₃ y₃⟩
  | cont=>exact ⟨rest.length,Nat.lt_succ_self _,.mk hi' hi1 (m1.trans (m₂.trans m₃)) q₃ y₃⟩
  | ret v=>exact ⟨m1.trans (m₂.trans m₃),M₃,σ₃,(y₃.dropP out).1,q₃⟩
  | brk=>exact q₃.elim
end
section
variable {Φ:Act} {n:Nat} {P:PS} {M M':Loc} {σ:Sto} {Q:KV} {R:KL} {pos:Pos} {k:Nat} {F:KF}
noncomputable def isNameT:Expr→Bool
 | .Name _ _=>true
 | _=>false
noncomputable def plainT:Expr→Bool
 | .Name _ _=>true
 | .Tuple _ _ _=>true
 | _=>false
noncomputable def ListIO (l:Addr) (i:Nat) (o:Obj):Prop:=o.cls=.type "list_iterator"∧o.data=.fields #[.ref l,.int i 0]
theorem ListIO.is {h:Heap} {I l:Addr} {i:Nat} (x:∃ o,h.get? I=some o∧ListIO l i o):h.IsListIter I l i:=let ⟨o,ho,hc,hd⟩:=x; ⟨o,ho,hc,hd⟩
theorem ListIO.of {h:Heap} {I l:Addr} {i:Nat} (x:h.IsListIter I l i):∃ o,h.get? I=some o∧ListIO l i o:=let ⟨o,ho,hc,hd⟩:=x; ⟨o,ho,hc,hd⟩
theorem stepper_list (hh:Φ.A.handled=none) {target:Expr} (ht:plainT target=true) {I l:Addr} {vs:List V}:Stepper Φ target I (fun σ=>σ l=some (.list vs)) vs (ListIO l) where
 item:=by
  intro i v P M σ s Qn E hv y hs ho hne q
  obtain ⟨items,hl,rfl⟩:=y.list hs
  rw [List.getElem?_map] at hv
  obtain ⟨u,hu,rfl⟩:=Option.map_eq_some_iff.mp hv
  exact wpAny_pyNext_list_item (ListIO.is ho) hl (by simpa using hu) fun h' hit hsb=>q u h' s.toks rfl (ListIO.of hit) fun b o hb e=>(hsb.2 b hb).trans e
 done:=by
  intro P M σ s Qn E y hs ho hne q
  obtain ⟨items,hl,rfl⟩:=y.list hs
  exact wpAny_pyNext_list_end hh (ListIO.is ho) hl (by simp) fun h' ext=>q h' s.toks fun b o hb e=>ext b o hb e
 letGo:=by
  intro i u s Qn E ho q
  cases target with
  | Name x p=>exact wpAny_pure q
  | Tuple es kk p =>
   cases u with
   | ref T=>exact wpAny_letOwnedTupleGo_listiter (ListIO.is ho) q
   | _=>exact wpAny_pure q
  | _=>cases ht
noncomputable def rng (a b:Int):List V:=(List.range (b-a).toNat).map fun (i:Nat)=>V.int (a+(i:Int))
@[reducible] def kLs (l:Addr) (vs:List V):Sto→Prop:=fun σ=>σ l=some (.list vs)
inductive kFor (Φ:Act) (target:Expr) (body:List Stmt) (F:KF) (R:KL) (M:Loc) (v:V) (σ:Sto):Prop
 | mk (l:Addr) (vs:List V) (h:v=.ref l) (q:ForG Φ target body (kLs l vs) F R vs M σ)
inductive kRg (Φ:Act) (target:Expr) (body:List Stmt) (F:KF) (R:KL) (M:Loc) (v:V) (σ:Sto):Prop
 | mk (b:Int) (h:v=.int b) (b1:-(2 ^ 62)≤b) (b2:b < 2 ^ 62) (q:ForG Φ target body (fun _=>True) F R (rng 0 b) M σ)
theorem SX_for_list (ok:Φ.Ok (n+1)) (hc:Φ.comp=none) {target iter:Expr} {body:List Stmt} (ht:plainT target=true) (hf:∀ x,foldedSetIterable iter Φ.env x=pure x)
  (h:SE Φ iter M σ (kFor Φ target body F R M) R):SX Φ (.For target iter body [] pos) M σ F R:=.mk <| .mk fun P s y =>
 wpAny_For (h.then (.refl s) y fun v σ₁ s₁ m₁ y₁ qf=>by
  obtain ⟨l,vs,ev,hg⟩:=qf
  obtain rfl:=er_ref ev
  have hs:=hg.src
  obtain ⟨items,hl,_⟩:=y₁.list hs
  refine wpAny_pyIter_list hl ?_
  have y2:=y₁.hid (ob:={ cls:=.type "list_iterator",data:=.fields #[.ref l,.int 0 0] }) rfl
  have y3:St Φ ((s₁.heap.objs.size,ListIO l 0)::P) M σ₁ (s₁.heap.push { cls:=.type "list_iterator",data:=.fields #[.ref l,.int 0 0] }):=by
   obtain ⟨z,hb,hp,hf',ho⟩:=y2.dropP y₁.out
   refine z.addP hb hp hf' ?_
   obtain ⟨o,ho,rfl⟩:=ho
   exact ⟨_,ho,rfl,rfl⟩
  exact for_sound ok hc (stepper_list (ok.hand (Nat.succ_ne_zero _)) ht) (i:=0) rfl (Nat.zero_le _) y₁.out (s:={ s₁ with heap:=s₁.heap.push { cls:=.type "list_iterator",data:=.fields #[.ref l,.int 0 0] } }) ⟨m₁.gens,m₁.drawn,m₁.os⟩ hg y3) hf
noncomputable def RangeIO (a:Int) (m:Nat) (i:Nat) (o:Obj):Prop:=o={ cls:=.type "range_iterator",data:=.fields #[rawInt (a+(i:Nat)*1),rawInt ((m:Int)-(i:Nat)),rawInt 1] }
theorem stepper_range (hh:Φ.A.handled=none) {target:Expr} (ht:isNameT target=true) {I:Addr} {a b:Int}:Stepper Φ target I (fun _=>True) (rng a b) (RangeIO a (b-a).toNat) where
 item:=by
  intro i v P M σ s Qn E hv y hs ho hne q
  obtain ⟨o,ho,rfl⟩:=ho
  have W:=Walks.range (prog:=Φ.prog) (w:=Φ.w) hh I a 1 (b-a).toNat
  unfold rng at hv
  rw [List.getElem?_map] at hv
  obtain ⟨j,hj,rfl⟩:=Option.map_eq_some_iff.mp hv
  have hij:i < (b-a).toNat∧j=i:=by
   obtain ⟨h1,h2⟩:=List.getElem?_eq_some_iff.mp hj
   simp at h1 h2
   exact ⟨by (revert h1 h2; lia),h2.symm⟩
  obtain ⟨hi,e⟩:=hij
  subst e
  refine W.item _ s Qn E hi ho fun u h' tk ⟨t,eu⟩ hit k=>q u h' tk ?_ ⟨_,hit,rfl⟩ fun b o hb e=>k b o (by simpa using hb) e
  rw [eu]
  show V.int (a+_*1)=_
  rw [Int.mul_one]
 done:=by
  intro P M σ s Qn E y hs ho hne q
  obtain ⟨o,ho,rfl⟩:=ho
  have W:=Walks.range (prog:=Φ.prog) (w:=Φ.w) hh I a 1 (b-a).toNat
  have hl:(rng a b).length=(b-a).toNat:=by simp [rng]
  rw [hl] at ho
  exact W.done s Qn E ho fun h' tk k=>q h' tk fun b o hb e=>k b o (by simpa using hb) e
 letGo:=by
  intro i u s Qn E ho q
  cases target with
  | Name x p=>exact wpAny_pure q
  | _=>cases ht
theorem range_go (ok:Φ.Ok (n+1)) (hc:Φ.comp=none) {target:Expr} {body:List Stmt} (ht:isNameT target=true) {a b:Int} (ha:-(2 ^ 62)≤a) (ha':a < 2 ^ 62) (hb1:-(2 ^ 62)≤b) (hb2:b < 2 ^ 62) {s₀ s₁:Shared} {r:Addr} {t u v:Tok} (m:Sm s₀ s₁)
  (y:St Φ P M σ s₁.heap) (hr:IsRange s₁.heap r a b 1 t u v) (hg:ForG Φ target body (fun _=>True) F R (rng a b) M σ) :
  wpAny (model Φ.prog Φ.w) Φ.A (pyIter (.ref r)) (fun it s₂=>codeAny (model Φ.prog Φ.w) Φ.A (.forLoop target it body [] Φ.env) (fun r s'=>match r with | .ok f=>PF Φ P s₀ F f s' | .error e=>cameBackBy (model Φ.prog Φ.w) Φ.A Φ.env (PX Φ P s₀ R) e s') s₂) (PX Φ P s₀ R) s₁:=by
 refine wpAny_pyIter_range hr (small_one ha ha' hb1 hb2) ?_
 have y2:=y.hid (ob:={ cls:=.type "range_iterator",data:=.fields #[rawInt a,rawInt (Builtin.Range.rangeSize a b 1),rawInt 1] }) rfl
 have hsz:Builtin.Range.rangeSize a b 1=((b-a).toNat:Int):=by rw [rangeSize_one]; split <;> (rename_i h; revert h; lia)
 have y3:St Φ ((s₁.heap.objs.size,RangeIO a (b-a).toNat 0)::P) M σ (s₁.heap.push { cls:=.type "range_iterator",data:=.fields #[rawInt a,rawInt (Builtin.Range.rangeSize a b 1),rawInt 1] }):=by
  obtain ⟨z,hb,hp,hf',ho⟩:=y2.dropP y.out
  refine z.addP hb hp hf' ?_
  obtain ⟨o,ho,rfl⟩:=ho
  refine ⟨_,ho,?_⟩
  unfold RangeIO
  rw [hsz]
  simp
 exact for_sound ok hc (stepper_range (ok.hand (Nat.succ_ne_zero _)) ht) (i:=0) rfl (Nat.zero_le _) y.out (s:={ s₁ with heap:=s₁.heap.push { cls:=.type "range_iterator",data:=.fields #[rawInt a,rawInt (Builtin.Range.rangeSize a b 1),rawInt 1] } }) ⟨m.gens,m.drawn,m.os⟩ hg y3
theorem SX_for_range1 (ok:Φ.Ok (n+1)) (hc:Φ.comp=none) {target e:Expr} {body:List Stmt} {np rp:Pos} (ht:isNameT target=true) (hx:((Str.ofString "range"),NameKind.globalImplicit)∈Φ.env.scope.names) (hgl:Glob Φ.toCtx (Str.ofString "range") (.type "range"))
  (he:starEach [e] Φ.env=[(false,eval e Φ.env)])
  (hf:∀ x,foldedSetIterable (.Call (.Name (Str.ofString "range") np) [e] [] rp) Φ.env x=pure x)
  (h:SE Φ e M σ (kRg Φ target body F R M) R) :
  SX Φ (.For target (.Call (.Name (Str.ofString "range") np) [e] [] rp) body [] pos) M σ F R:=.mk <| .mk fun P s y =>
 wpAny_For (Call_ (glob_raw ok hx hgl y (PyProof.Rows.callWith_type1 (args_cons (h.then (.refl s) y fun v σ₁ s₁ m₁ y₁ qf=>by obtain ⟨b,ev,b1,b2,hg⟩:=qf; exact args_nil (by
  obtain ⟨t,rfl⟩:=er_int ev
  refine call_range_1 ?_
  refine range_go ok hc ht (by decide) (by decide) b1 b2 (s₁:={ s₁ with heap:=s₁.heap.push { cls:=.type "range",data:=.fields #[.int 0 s₁.toks,.int b t,.int 1 (s₁.toks+1)] },toks:=s₁.toks+1+1 }) ⟨m₁.gens,m₁.drawn,m₁.os⟩ (y₁.keeps fun b o e=>Heap.get?_push_of_some _ e) (IsRange.new ..) hg)) he) he))) hf
inductive kRg2 (Φ:Act) (target:Expr) (body:List Stmt) (F:KF) (R:KL) (M:Loc) (v:V) (v':V) (σ:Sto):Prop
 | mk (a b:Int) (h:v=.int a) (h':v'=.int b) (a1:-(2 ^ 62)≤a) (a2:a < 2 ^ 62) (b1:-(2 ^ 62)≤b) (b2:b < 2 ^ 62) (q:ForG Φ target body (fun _=>True) F R (rng a b) M σ)
@[reducible] def kRg1 (Φ:Act) (target e':Expr) (body:List Stmt) (F:KF) (R:KL) (M:Loc):KV:=fun v σ=>SE Φ e' M σ (kRg2 Φ target body F R M v) R
theorem SX_for_range2 (ok:Φ.Ok (n+1)) (hc:Φ.comp=none) {target e e':Expr} {body:List Stmt} {np rp:Pos} (ht:isNameT target=true) (hx:((Str.ofString "range"),NameKind.globalImplicit)∈Φ.env.scope.names) (hgl:Glob Φ.toCtx (Str.ofString "range") (.type "range"))
  (he:starEach [e,e'] Φ.env=(false,eval e Φ.env)::starEach [e'] Φ.env) (he':starEach [e'] Φ.env=[(false,eval e' Φ.env)])
  (hf:∀ x,foldedSetIterable (.Call (.Name (Str.ofString "range") np) [e,e'] [] rp) Φ.env x=pure x)
  (h:SE Φ e M σ (kRg1 Φ target e' body F R M) R) :
  SX Φ (.For target (.Call (.Name (Str.ofString "range") np) [e,e'] [] rp) body [] pos) M σ F R:=.mk <| .mk fun P s y =>
 wpAny_For (Call_ (glob_raw ok hx hgl y (PyProof.Rows.callWith_type1 (args_cons (h.then (.refl s) y fun v σ₁ s₁ m₁ y₁ h₁=>args_cons (h₁.then m₁ y₁ fun v' σ₂ s₂ m₂ y₂ qf=>by obtain ⟨a,b,ev,ev',a1,a2,b1,b2,hg⟩:=qf; exact args_nil (by
  obtain ⟨t,rfl⟩:=er_int ev
  obtain ⟨t',rfl⟩:=er_int ev'
  refine call_range_2 ?_
  refine range_go ok hc ht a1 a2 b1 b2 (s₁:={ s₂ with heap:=s₂.heap.push { cls:=.type "range",data:=.fields #[.int a t,.int b t',.int 1 s₂.toks] },toks:=s₂.toks+1 }) ⟨m₂.gens,m₂.drawn,m₂.os⟩ (y₂.keeps fun b o e=>Heap.get?_push_of_some _ e) (IsRange.new ..) hg)) he') he) he (by rw [he']; rfl)))) hf
theorem SX_while (ok:Φ.Ok n) (hc:Φ.comp=none) {test:Expr} {body:List Stmt} (I:Nat→KL) (k:Nat) (h:I k M σ)
  (turn:∀ k M σ,I k M σ→ST Φ test M σ (fun b σ'=>if b then SS Φ body M σ' (fun fl M' σ''=>match fl with
   | .next=>∃ k',k' < k∧I k' M' σ''
   | .cont=>∃ k',k' < k∧I k' M' σ''
   | .ret v=>F (.ret v) M' σ'') R else F .next M σ') R):SX Φ (.While test body [] pos) M σ F R:=.mk <| .mk fun P s y=>by
 refine wpAny_While (codeAny_whileLoop (fun k s'=>∃ M σ,Sm s s'∧I k M σ∧St Φ P M σ s'.heap) ?_ k ⟨M,σ,.refl s,h,y⟩)
 rintro k s' ⟨M,σ,m,hI,y⟩
 refine wpAny_passesOwn (PX.passes ok hc) ((turn k M σ hI).then m y fun b σ₁ s₁ m₁ y₁ q=>?_)
 cases b with
 | false=>exact wpAny_passesOwn (PX.passes ok hc) (wpAny_execs_nil ⟨m₁,M,σ₁,y₁,q⟩)
 | true =>
  refine wpAny_passesOwn (PX.passes ok hc) (wpAny_mono (SF.at m₁ y₁ q.1) (fun fl s₂ qq=>?_) fun _ _ x=>x)
  obtain ⟨m₂,M₂,σ₂,y₂,q₂⟩:=qq
  cases fl with
  | next=>obtain ⟨k',hk,hI'⟩:=q₂; exact ⟨k',hk,M₂,σ₂,m₂,hI',y₂⟩
  | cont=>obtain ⟨k',hk,hI'⟩:=q₂; exact ⟨k',hk,M₂,σ₂,m₂,hI',y₂⟩
  | ret v=>exact ⟨m₂,M₂,σ₂,y₂,q₂⟩
  | brk=>exact q₂.elim
end
section
variable {Φ:Act} {n:Nat} {P:PS} {M M':Loc} {σ:Sto} {Q:KV} {R:KL} {pos:Pos} {k:Nat} {F:KF}
theorem SE_dict0 (ok:Φ.Ok n) (q:∀ a,σ a=none→Q (.ref a) (σ.set a (.dict []))):SE Φ (.Dict [] [] pos) M σ Q R:=.mk <| .mk fun P s y=>by
 have hd:=Heap.DictOf.new (knd:=intKind Φ.prog Φ.w) s.heap
 have lo:(s.heap.objs.size == sysModules)=false:=by
  obtain ⟨m,F,N⟩:=y.fr
  have h1:Φ.L < s.heap.objs.size:=F.ns.lt
  have h2:Φ.base.objs.size≤Φ.L:=F.above
  have h3:mainGlobals < Φ.base.objs.size:=ok.ctx.T.g.lt
  have h3':(3:Nat) < Φ.base.objs.size:=h3
  have h4:s.heap.objs.size≠1:=Nat.ne_of_gt (Nat.lt_trans (by decide:1 < 3) (Nat.lt_trans (Nat.lt_of_lt_of_le h3' h2) h1))
  exact beq_eq_false_iff_ne.mpr h4
 have z:=y.alloc (h':=s.heap.push { cls:=.type "dict",data:=.dict #[] }) (a:=s.heap.objs.size) (dx:=0) (o:=.dict []) (fun b o e=>Heap.get?_push_of_some _ e) ⟨lo,[],hd,rfl⟩ (fun b hb=>by simp [fp] at hb; subst hb; exact none_size (Nat.le_refl _)) fun C fs e=>by cases e
 exact wpAny_Dict_empty ⟨⟨rfl,rfl,rfl⟩,_,z.2,q _ z.1⟩
theorem St.dict {h:Heap} {d:Addr} {kvs:List (Int×V)} (y:St Φ P M σ h) (e:σ d=some (.dict kvs)):∃ kws:List (Int×Value),h.DictOf (intKind Φ.prog Φ.w) d kws∧kws.map erP=kvs∧(d == sysModules)=false:=by
 obtain ⟨dx,⟨lo,kws,hd,r⟩,_⟩:=y.acc e; exact ⟨kws,hd,r,lo⟩
theorem isInt_is (k:Int) (t:Tok):(intKind Φ.prog Φ.w).is k (.int k t)=true:=by simp [intKind,Value.isInt]
theorem cop_in_dict {d:Addr} {kvs:List (Int×V)} {k:Int} (e:σ d=some (.dict kvs)) (q:Q (.bool (dget kvs k).isSome) σ):∀ av bv,er av=.int k→er bv=.ref d→SV Φ (compareOp .In av bv) M σ Q R:=by
 intro av bv ea eb
 refine .mk fun P s y=>?_
 obtain ⟨t,rfl⟩:=er_int ea
 obtain rfl:=er_ref eb
 obtain ⟨kws,hd,rfl,lo⟩:=y.dict e
 refine wpAny_in_of (knd:=intKind Φ.prog Φ.w) (isInt_is k t) lo hd.mapOf ⟨⟨rfl,rfl,rfl⟩,σ,y,?_⟩
 ·show Q (.bool (valueAt kws k).isSome) σ
  rw [dget_map,Option.isSome_map] at q
  exact q
theorem setItem_dict {s s':Shared} {d:Addr} {kvs:List (Int×V)} {k:Int} {t:Tok} {v:Value} {Qf:Unit→Shared→Prop} {E:Value→Shared→Prop} (m:Sm s s') (y:St Φ P M σ s'.heap) (e:σ d=some (.dict kvs)) (hl:kvs.length < 1000000)
  (q:∀ s₂,Sm s s₂→St Φ P M (σ.set d (.dict (dset kvs k (er v)))) s₂.heap→Qf () s₂):wpAny (model Φ.prog Φ.w) Φ.A (setItem (.ref d) (.int k t) v) Qf E s':=by
 obtain ⟨dx,⟨lo,kws,hd,rfl⟩,hfp,hne,acc⟩:=y.acc e
 simp only [List.length_map] at hl
 refine wpAny_setItem_pairs (knd:=intKind Φ.prog Φ.w) (isInt_is k t) hd (fun h' hd' sb=>q _ (m.trans ⟨rfl,rfl,rfl⟩) ?_) (by rw [sizeLine_eq]; (revert hl; lia))
 refine acc d (fp_self _ _ _) h' _ (fun b ob hb eb=>(sb.2 b hb).trans eb) ⟨lo,_,hd',?_⟩ rfl fun C fs q=>by cases q
 exact (dset_map).symm
theorem setItem_list {s s':Shared} {l:Addr} {vs:List V} {k:Int} {t:Tok} {v:Value} {Qf:Unit→Shared→Prop} {E:Value→Shared→Prop} (m:Sm s s') (y:St Φ P M σ s'.heap) (e:σ l=some (.list vs)) (h0:0≤k) (h1:k < vs.length) (hl:vs.length < 1000000)
  (q:∀ s₂,Sm s s₂→St Φ P M (σ.set l (.list (vs.set k.toNat (er v)))) s₂.heap→Qf () s₂):wpAny (model Φ.prog Φ.w) Φ.A (setItem (.ref l) (.int k t) v) Qf E s':=by
 obtain ⟨dx,⟨items,nn,ho,rfl⟩,hfp,hne,acc⟩:=y.acc e
 simp only [List.length_map] at hl h1
 refine ki_setAt ho h0 (by (revert hl h1; lia)) (by simp; (revert h1; lia)) (q _ (m.trans ⟨rfl,rfl,rfl⟩) ?_)
 have sb:=Heap.SameBut.update s'.heap l (Obj.mapSeq (·.setIfInBounds k.toNat v))
 refine acc l (fp_self _ _ _) _ _ (fun b ob hb eb=>(sb.2 b hb).trans eb) ⟨items.set k.toNat v,nn,?_,by simp⟩ rfl fun C fs q=>by cases q
 have:=Heap.get?_update_self (Obj.mapSeq (·.setIfInBounds k.toNat v)) ho (by rfl)
 rw [this]
 unfold Obj.mapSeq
 simp [W.listOf]
inductive kSiD (a:Addr) (k:Int) (v:V) (M:Loc) (F:KF) (σ:Sto):Prop
 | mk (kvs:List (Int×V)) (e:σ a=some (.dict kvs)) (l:kvs.length < 1000000) (q:F .next M (σ.set a (.dict (dset kvs k v))))
inductive kSiL (a:Addr) (k:Int) (v:V) (M:Loc) (F:KF) (σ:Sto):Prop
 | mk (vs:List V) (e:σ a=some (.list vs)) (h0:0≤k) (h1:k < vs.length) (l:vs.length < 1000000) (q:F .next M (σ.set a (.list (vs.set k.toNat v))))
inductive kSi (v:V) (M:Loc) (F:KF) (ov:V) (iv:V) (σ:Sto):Prop
 | mk (a:Addr) (k:Int) (h:ov=.ref a) (i:iv=.int k) (q:kSiD a k v M F σ∨kSiL a k v M F σ)
@[reducible] def kSi2 (Φ:Act) (i:Expr) (v:V) (M:Loc) (F:KF) (R:KL):KV:=fun ov σ=>SE Φ i M σ (kSi v M F ov) R
@[reducible] def kSi1 (Φ:Act) (o i:Expr) (M:Loc) (F:KF) (R:KL):KV:=fun v σ=>SE Φ o M σ (kSi2 Φ i v M F R) R
theorem SX_setitem {o i e:Expr} {pos':Pos} (hsw:swapsWith e (some (.Subscript o i pos')) pos.line Φ.env=pure false)
  (h:SE Φ e M σ (kSi1 Φ o i M F R) R) :
  SX Φ (.Assign [.Subscript o i pos'] e pos) M σ F R:=.mk <| .mk fun P s y =>
 wpAny_Assign_Subscript (h.then (.refl s) y fun v σ₁ s₁ m₁ y₁ h₁=>h₁.then m₁ y₁ fun ov σ₂ s₂ m₂ y₂ h₂=>h₂.then m₂ y₂ fun iv σ₃ s₃ m₃ y₃ qf=>by
  obtain ⟨a,k,eo,ei,hq⟩:=qf
  obtain rfl:=er_ref eo
  obtain ⟨t,rfl⟩:=er_int ei
  rcases hq with ⟨kvs,e1,hl,q⟩ | ⟨vs,e1,h0,h1,hl,q⟩
  ·exact setItem_dict m₃ y₃ e1 hl fun s₄ m₄ y₄=>⟨m₄,M,_,y₄,q⟩
  ·exact setItem_list m₃ y₃ e1 h0 h1 hl fun s₄ m₄ y₄=>⟨m₄,M,_,y₄,q⟩) hsw
inductive kDe (M:Loc) (F:KF) (ov:V) (iv:V) (σ:Sto):Prop
 | mk (a:Addr) (k:Int) (kvs:List (Int×V)) (h:ov=.ref a) (i:iv=.int k) (e:σ a=some (.dict kvs)) (s:(dget kvs k).isSome=true) (l:kvs.length < 1000000) (q:F .next M (σ.set a (.dict (ddel kvs k))))
@[reducible] def kDe1 (Φ:Act) (i:Expr) (M:Loc) (F:KF) (R:KL):KV:=fun ov σ=>SE Φ i M σ (kDe M F ov) R
theorem SX_delitem {o i:Expr} {p:Pos} (h:SE Φ o M σ (kDe1 Φ i M F R) R) :
  SX Φ (.Delete [.Subscript o i p] pos) M σ F R:=.mk <| .mk fun P s y =>
 wpAny_Delete (wpAny_deleteEach_cons (wpAny_delete_Subscript (h.then (.refl s) y fun ov σ₁ s₁ m₁ y₁ h₁=>h₁.then m₁ y₁ fun iv σ₂ s₂ m₂ y₂ qf=>by
  obtain ⟨a,k,kvs,eo,ei,e,hk,hl,q⟩:=qf
  obtain rfl:=er_ref eo
  obtain ⟨t,rfl⟩:=er_int ei
  obtain ⟨dx,⟨lo,kws,hD,rfl⟩,hfp,hne,acc⟩:=y₂.acc e
  rw [show (fun p:Int×Value=>(p.1,er p.2))=erP from rfl,dget_map,Option.isSome_map] at hk
  simp only [List.length_map] at hl
  unfold delItem
  refine wpAny_holding ?_
  refine wpAny_bind (wpAny_sequenceKey hD.typeIs (by decide) ?_)
  refine wpAny_bind (wpAny_callSpecial?_slot (name:=Str.ofString "__delitem__") hD.typeIs PySem.F.slot_dict_delitem
   (call_meetsIn PySem.F.slot_dict_delitem hD.typeIs PySem.F.entry_dict_delitem (PySem.F.args_dict_delitem_2 _ _) (meets_dict_delitem_pairs (intKind Φ.prog Φ.w) a (isInt_is k t)) ⟨kws,hD,(by rw [sizeLine_eq]; (revert hl; lia)),hk,fun h' hmm hs=>?_⟩))
  refine wpAny_pure (wpAny_deleteEach_nil ⟨m₂.trans ⟨rfl,rfl,rfl⟩,M,_,?_,q⟩)
  refine acc a (fp_self _ _ _) h' _ (fun b ob hb eb=>(hs.2 b hb).trans eb) ⟨lo,_,hmm,?_⟩ rfl fun C fs q=>by cases q
  exact ddel_map.symm)))
noncomputable def iop (op:Operator) (a b:Int) (Q:V→Prop):Prop:=match op with
 | .Add=>Q (.int (a+b))
 | .Sub=>Q (.int (a-b))
 | .Mult=>IntMulOk a b∧Q (.int (a*b))
 | _=>False
@[reducible] def kAv (vs:Vars) (M:Loc) (x:Str) (F:KF) (σ:Sto):V→Prop:=fun r=>kAs vs M x F r σ
inductive kAug (vs:Vars) (M:Loc) (x:Str) (op:Operator) (a:Int) (F:KF) (v:V) (σ:Sto):Prop
 | mk (b:Int) (h:v=.int b) (q:iop op a b (kAv vs M x F σ))
theorem SX_aug (ok:Φ.Ok n) (hc:Φ.comp=none) {x:Str} {op:Operator} {e:Expr} {p:Pos} {a:Int} (hv:Var Φ.vars M x (.int a))
  (h:SE Φ e M σ (kAug Φ.vars M x op a F) R):SX Φ (.AugAssign (.Name x p) op e pos) M σ F R:=.mk <| .mk fun P s y=>by
 obtain ⟨m,Fm,N⟩:=y.fr
 unfold Names at N
 rw [hc] at N
 obtain ⟨c,hcm,hval⟩:=N.var hv
 have hvok:=ok.vok _ hcm
 have go:∀ v,er v=.int a→wpAny (model Φ.prog Φ.w) Φ.A (eval e Φ.env) (fun v₂ s₂=>wpAny (model Φ.prog Φ.w) Φ.A (inplaceOp op v v₂)
   (fun r s₃=>wpAny (model Φ.prog Φ.w) Φ.A (storeName Φ.env x r) (fun _=>PF Φ P s F .next) (PX Φ P s R) s₃) (PX Φ P s R) s₂) (PX Φ P s R) s:=by
  intro v ev
  obtain ⟨t,rfl⟩:=er_int ev
  refine h.then (.refl s) y ?_
  rintro w σ₁ s₁ m₁ y₁ ⟨b,eb,hi⟩
  obtain ⟨u,rfl⟩:=er_int eb
  cases op <;> first | exact hi.elim | skip
  ·obtain ⟨M',hs,q⟩:=hi
   exact PySem.P.iadd_int (St.storeName (s:={ s₁ with toks:=s₁.toks+1 }) ok y₁ hs fun s' m' y'=>⟨m₁.trans ⟨m'.gens,m'.drawn,m'.os⟩,M',σ₁,y',q⟩)
  ·obtain ⟨M',hs,q⟩:=hi
   exact PySem.P.isub_int (St.storeName (s:={ s₁ with toks:=s₁.toks+1 }) ok y₁ hs fun s' m' y'=>⟨m₁.trans ⟨m'.gens,m'.drawn,m'.os⟩,M',σ₁,y',q⟩)
  ·obtain ⟨hm,M',hs,q⟩:=hi
   exact PySem.P.imul_int (St.storeName (s:={ s₁ with toks:=s₁.toks+1 }) ok y₁ hs fun s' m' y'=>⟨m₁.trans ⟨m'.gens,m'.drawn,m'.os⟩,M',σ₁,y',q⟩) hm
 have eL:Φ.env.locals=Φ.L:=by rw [ok.loc,hc]; rfl
 cases c with
 | none =>
  obtain ⟨v,hm,ev⟩:=hval
  exact wpAny_AugAssign_Name (wpAny_loadName_local ok.kind (lookup_of_mem ok.nms hvok) (by rw [eL]; exact Fm.ns) hm (go v ev))
 | some c =>
  obtain ⟨v,hm,ev⟩:=hval
  exact wpAny_AugAssign_Name (wpAny_loadName_cell ok.kind (lookup_of_mem ok.nms hvok.1) hvok.2 hm (go v ev))
theorem noDict_list {s:Shared} {a:Addr} {vs:List V} (y:St Φ P M σ s.heap) (e:σ a=some (.list vs)):s.heap.NoDictAt (.ref a):=by
 obtain ⟨items,nn,ho,_⟩:=y.exact e
 exact ⟨_,ho,rfl⟩
@[reducible] def kBr (Φ:Act) (f:Value) (a:Addr) (M:Loc) (Q:KV) (R:KL):KA:=fun Vs σ=>∀ vals,vals.map er=.ref a::Vs→SV Φ (call f vals) M σ Q R
inductive kLm (Φ:Act) (pos:Pos) (es:List Expr) (f:Value) (M:Loc) (Q:KV) (R:KL) (ov:V) (σ:Sto):Prop
 | mk (a:Addr) (vs:List V) (h:ov=.ref a) (e:σ a=some (.list vs)) (q:SA Φ pos es M σ (kBr Φ f a M Q R) R)
inductive kLm0 (Φ:Act) (f:Value) (M:Loc) (Q:KV) (R:KL) (ov:V) (σ:Sto):Prop
 | mk (a:Addr) (vs:List V) (h:ov=.ref a) (e:σ a=some (.list vs)) (q:∀ vals,vals.map er=[.ref a]→SV Φ (call f vals) M σ Q R)
theorem SE_lmeth (ok:Φ.Ok n) {o e:Expr} {es:List Expr} {x:Str} {id:String} {apos:Pos} {pl:Sem Bool} (slot:Slot "list" x id) (hty:typeOf (.builtin id)=pure (.type "method_descriptor"))
  (hm:eval (.Call (.Attribute o x apos) (e::es) [] pos) Φ.env=(do
   let ov ← eval o Φ.env
   standAt apos.atName
   let (f,first) ← holding [ov] (getMethod ov x pl)
   callWith pos f first (backTo pos (starEach (e::es) Φ.env)) []))
  (he:starEach (e::es) Φ.env=(false,eval e Φ.env)::starEach es Φ.env) (hplain:(backTo pos (starEach es Φ.env)).any (·.1)=false)
  (h:SE Φ o M σ (kLm Φ pos (e::es) (.builtin id) M Q R) R) :
  SE Φ (.Call (.Attribute o x apos) (e::es) [] pos) M σ Q R:=.mk <| .mk fun P s y =>
 MethodCall_ (h.then (.refl s) y fun ov σ₁ s₁ m₁ y₁ qf=>by
  obtain ⟨a,vs,eo,e1,h2⟩:=qf
  obtain rfl:=er_ref eo
  obtain ⟨items,hl,_⟩:=y₁.list e1
  refine getMethod_list_of slot hty hl (noDict_list y₁ e1) ?_
  exact callWith_method1 (h2.then m₁ y₁ fun vs σ₂ s₂ m₂ y₂ q=>(q (.ref a::vs) rfl).at m₂ y₂) he hplain) hm
theorem SE_lmeth0 (ok:Φ.Ok n) {o:Expr} {x:Str} {id:String} {apos:Pos} {pl:Sem Bool} (slot:Slot "list" x id) (hty:typeOf (.builtin id)=pure (.type "method_descriptor"))
  (hm:eval (.Call (.Attribute o x apos) [] [] pos) Φ.env=(do
   let ov ← eval o Φ.env
   standAt apos.atName
   let (f,first) ← holding [ov] (getMethod ov x pl)
   callWith pos f first (backTo pos (starEach [] Φ.env)) []))
  (h:SE Φ o M σ (kLm0 Φ (.builtin id) M Q R) R) :
  SE Φ (.Call (.Attribute o x apos) [] [] pos) M σ Q R:=.mk <| .mk fun P s y =>
 MethodCall_ (h.then (.refl s) y fun ov σ₁ s₁ m₁ y₁ qf=>by
  obtain ⟨a,vs,eo,e1,h2⟩:=qf
  obtain rfl:=er_ref eo
  obtain ⟨items,hl,_⟩:=y₁.list e1
  refine getMethod_list_of slot hty hl (noDict_list y₁ e1) ?_
  exact callWith_method0 ((h2 [.ref a] rfl).at m₁ y₁)) hm
@[reducible] def kNx (F:KF) (M:Loc):KV:=fun _ σ=>F .next M σ
theorem SX_expr' {e:Expr} (hi:interactive Φ.env=false) (hs:swapsWith e none pos.line Φ.env=pure false) (h:SE Φ e M σ (kNx F M) R):SX Φ (.Expr e pos) M σ F R:=.mk <| .mk fun P s y =>
 wpAny_Expr_any (h.then (.refl s) y fun v σ₁ s₁ m₁ y₁ q=>⟨m₁,M,σ₁,y₁,q⟩) hi hs
end
section
variable {Φ:Act} {n:Nat} {P:PS} {M M':Loc} {σ:Sto} {Q:KV} {R:KL} {pos:Pos} {k:Nat} {F:KF}
structure ExcOk (c:Ctx) (x:Str) (bm:List Value) (newId:String):Prop where
 glob:nsIn c.K mainGlobals x=some (some (.ref c.exc))
 cls:excIn c.K c.exc bm newId=true
 kts:ktsIn c.K c.exc "BaseException"=true
@[reducible] def kRz (R:KL) (M:Loc):KV:=fun _ σ=>R M σ
@[reducible] def kNo:KL:=fun _ _=>False
theorem SX_raise (ok:Φ.Ok (n+1)) {x:Str} {e:Expr} {np cpos:Pos} {bm:List Value} {newId B initId:String} (hx:(x,NameKind.globalImplicit)∈Φ.env.scope.names) (eo:ExcOk Φ.toCtx x bm newId) (FB:ExcBaseFacts B newId initId bm)
  (hs:starEach [e] Φ.env=[(false,eval e Φ.env)]) (hc:Φ.comp=none) (hfe:∃ name scope L a cd,Φ.env=envOf name scope L a cd∧scope.kind=.function∧Φ.L=L)
  (h:SE Φ e M σ (kRz R M) R):SX Φ (.Raise (some (.Call (.Name x np) [e] [] cpos)) none pos) M σ F R:=by
 refine .mk <| .mk fun P s y=>?_
 obtain ⟨name,scope,L,a,cd,he,hk,hL⟩:=hfe
 subst hL
 obtain ⟨m,Fm,N⟩:=y.fr
 have O:OwnCls x Φ.exc bm newId Φ.mg Φ.base:=own_of_in ok.ctx.X (topRead_of ok.ctx.T) eo.glob eo.cls
 show wpAny _ _ (exec (.Raise (some (.Call (.Name x np) [e] [] cpos)) none pos) Φ.env) _ _ s
 have hkind:Φ.env.kindOf x=some .globalImplicit:=lookup_of_mem ok.nms hx
 have hs':=hs
 have hdbg:=ok.dbg _ hx
 have args:wpAny (model Φ.prog Φ.w) Φ.A (spliced (backTo cpos (starEach [e] Φ.env))) (fun vs s₂=>vs.length≤sizeLine∧(∀ b o,Φ.base.get? b=some o→s₂.heap.get? b=some o) ∧
   ∀ h' e,Heap.MadeExcOf s₂.heap h' e (.ref Φ.exc) vs→PX Φ P s R (.ref e) { s₂ with heap:=h' }) (PX Φ P s R) s:=by
  refine args_cons (h.then (.refl s) y fun v σ₁ s₁ m₁ y₁ q=>args_nil ⟨by rw [sizeLine_eq]; simp,?_,fun h' e hx=>⟨⟨m₁.gens,m₁.drawn,m₁.os⟩,M,σ₁,e,rfl,q,.inl ⟨s₁.heap,_,y₁,hx⟩⟩⟩) hs
  obtain ⟨m',F',_⟩:=y₁.fr
  exact F'.keep
 rw [he] at args hs' hkind ⊢
 refine Raise_own (Fm) ok.ctx.T.g O FB (ok.hand (Nat.succ_ne_zero _)) args hs' rfl hk hkind hdbg
noncomputable def marked (Φ:Act) (e:Addr):Act:={ Φ with A:=Φ.A.mark (some (.ref e)) }
theorem marked_ok (ok:Φ.Ok n) (e:Addr):(marked Φ e).Ok 0:=by
 refine ⟨ok.ctx,fun h=>absurd rfl h,ok.frames,ok.ff,ok.fk,?_,?_,ok.compf,ok.kind,ok.loc,ok.glob,ok.blt,ok.nms,ok.vok,ok.vnd,ok.dbg,ok.fn⟩
 ·have:=ok.depth; show Φ.A.depth+8*0≤800; (revert this; lia)
 ·have:=ok.units; show Φ.A.units+64*0≤9000; (revert this; lia)
theorem SX_try (ok:Φ.Ok (n+1)) (hc:Φ.comp=none) {body suite:List Stmt} {b₀:Stmt} {x:Str} {np hp:Pos} {bm:List Value} {newId:String} (hx:(x,NameKind.globalImplicit)∈Φ.env.scope.names) (eo:ExcOk Φ.toCtx x bm newId)
  {Rb:KL} (h:SS Φ body M σ F Rb) (hR:∀ M' σ',Rb M' σ'→∀ e,SS (marked Φ e) (b₀::suite) M' σ' F kNo) :
  SX Φ (.Try body [.ExceptHandler (some (.Name x np)) none (b₀::suite) hp] [] [] pos) M σ F R:=by
 refine .mk <| .mk fun P s y=>?_
 have he:=ok.fn hc
 refine wpAny_Try_except (wpAny_mono (h.1.1 P s y) (fun fl s₁ x=>?_) fun v s₁ hx₁=>?_)
 ·obtain ⟨m₁,M₁,σ₁,y₁,q⟩:=x
  cases fl with
  | next=>exact wpAny_execs_nil ⟨m₁,M₁,σ₁,y₁,q⟩
  | cont=>exact ⟨m₁,M₁,σ₁,y₁,q⟩
  | ret v=>exact ⟨m₁,M₁,σ₁,y₁,q⟩
  | brk=>exact q.elim
 ·obtain ⟨m₁,M₁,σ₁,e,rfl,hRb,hex⟩:=hx₁
  rw [← he]
  refine note_ex ok hex ?_
  rintro h₂ ⟨B,t,h₀,y₀,hB,u,f⟩
  refine wpAny_landsW f fun h₃ f₃ u₃=>?_
  have st:∀ h',B.StaysIn h'→h₀.UpToSlots h'→St Φ P M₁ σ₁ h':=fun h' k1 k2=>y₀.slots ok (fun b o e hb=>k1 b o (hB b o e hb)) k2
  have y₃:=st h₃ f₃.1 (u.trans u₃)
  obtain ⟨ob,hob,hobc⟩:=f₃.there
  obtain ⟨nm,q',N,bs,bm',hdct,sn,sub,ab,col,dd,k0,k1,k2,k3,k5,newId',hC,hbase,hbT⟩:=kts_cls ok.ctx.X eo.kts
  obtain ⟨m,Fm,_⟩:=y₃.fr
  have hC₃:=Fm.keep _ _ hC
  rw [he]
  refine wpAny_handleBy_cons (codeAny_handlers_test ?_) (by intro q; cases q)
  refine Name_function_global ok.kind (lookup_of_mem ok.nms hx) (loadGlobal_global (by rw [ok.glob]; exact ok.ctx.T.g.keeps Fm.keep) (mg_of ok.ctx.X ok.ctx.T.g eo.glob) ?_) (ok.dbg _ hx)
  refine wpAny_excMatches_sub_self hC₃ hob hobc hbase (codeAny_handlers_suite ?_)
  refine lands_againW f₃ fun h₄ f₄ u₄=>?_
  have y₄:=st h₄ f₄.1 ((u.trans u₃).trans u₄)
  have run:=(hR M₁ σ₁ hRb e).1.1 P { s₁ with heap:=h₄ } y₄.A
  refine wpAny_mono run (fun fl s₅ qq=>?_) fun _ _ qc=>by obtain ⟨_,_,_,_,_,hf,_⟩:=qc; exact hf.elim
  obtain ⟨m₅,M₅,σ₅,y₅,q⟩:=qq
  have mm:Sm s s₅:=⟨m₅.gens.trans m₁.gens,m₅.drawn.trans m₁.drawn,m₅.os.trans m₁.os⟩
  exact ⟨mm,M₅,σ₅,y₅.ofA,q⟩
end
set_option exponentiation.threshold 2000
section
variable {Φ:Act} {n:Nat} {P:PS} {M M':Loc} {σ:Sto} {Q:KV} {R:KL} {pos:Pos} {k:Nat} {F:KF}
structure SJ (Φ:Act) (es:List Expr) (M:Loc) (σ:Sto) (K:Sto→Prop) (R:KL):Prop where
 to:∀ (P:PS) (s₀ s:Shared) (acc:Str) (Qs:Str→Shared→Prop),Sm s₀ s→St Φ P M σ s.heap→acc.length+200*es.length≤10000 →
  (∀ out s',Sm s₀ s'→(∃ σ',St Φ P M σ' s'.heap∧K σ')→out.length≤10000→Qs out s')→Joins (model Φ.prog Φ.w) Φ.A (PX Φ P s₀ R) (evalEach es Φ.env) acc Qs s
theorem SJ_nil {K:Sto→Prop} (q:K σ):SJ Φ [] M σ K R:=.mk fun P s₀ s acc Qs m y hl k=>k acc s m ⟨σ,y,q⟩ (by simp at hl; (revert hl; lia))
theorem SJ_str {K:Sto→Prop} {x:Str} {kk:Nat} {p:Pos} {es:List Expr} (h:SJ Φ es M σ K R) (hx:x.length≤200:=by decide +kernel):SJ Φ (.Constant (.str x) kk p::es) M σ K R:=.mk fun P s₀ s acc Qs m y hl q =>
 wpAny_Constant_str ⟨x,s.toks,rfl,by rw [Str.length_append,sizeLine_eq]; simp only [List.length_cons] at hl; (revert hx hl; lia),h.1 P s₀ _ _ Qs ⟨m.gens,m.drawn,m.os⟩ y (by rw [Str.length_append]; simp only [List.length_cons] at hl; (revert hx hl; lia)) q⟩
inductive kJi (Φ:Act) (es:List Expr) (M:Loc) (K:Sto→Prop) (R:KL) (v:V) (σ:Sto):Prop
 | mk (i:Int) (h:v=.int i) (l:i.natAbs < 10 ^ 10) (q:SJ Φ es M σ K R)
@[reducible] def kStr (Q:KV):Sto→Prop:=fun σ=>∀ out,Q (.str out) σ
theorem SJ_int {K:Sto→Prop} {e:Expr} {p:Pos} {es:List Expr} (h:SE Φ e M σ (kJi Φ es M K R) R):SJ Φ (.FormattedValue e (-1) none p::es) M σ K R:=.mk fun P s₀ s acc Qs m y hl q=>by
 refine wpAny_FormattedValue_plain (h.then m y fun v σ₁ s₁ m₁ y₁ x=>?_)
 obtain ⟨i,ei,hi,h2⟩:=x
 obtain ⟨t,rfl⟩:=er_int ei
 have hlog:i.natAbs.log2 < 1920:=by
  by_cases h0:i.natAbs=0
  ·rw [h0]; decide
  ·exact (Nat.log2_lt h0).mpr (Nat.lt_of_lt_of_le hi (by decide))
 refine wpAny_formatField_int hlog ⟨_,_,rfl,by rw [Str.length_append,PySem.ofString_length,sizeLine_eq]; have hlen:=int_text_length_le10 (k:=10) (by decide) hi; simp only [List.length_cons] at hl; (revert hl hlen; lia),?_⟩
 have hlen:=int_text_length_le10 (k:=10) (by decide) hi
 exact h2.1 P s₀ { s₁ with toks:=s₁.toks+1+1 } _ Qs ⟨m₁.gens,m₁.drawn,m₁.os⟩ y₁ (by rw [Str.length_append,PySem.ofString_length]; simp only [List.length_cons] at hl; (revert hl hlen; lia)) q
theorem SE_fstr {v₁ v₂:Expr} {rest:List Expr} (h:SJ Φ (v₁::v₂::rest) M σ (kStr Q) R) (hl:Nat.ble rest.length 20=true:=by k_dflt rfl):SE Φ (.JoinedStr (v₁::v₂::rest) pos) M σ Q R:=.mk <| .mk fun P s y =>
 wpAny_JoinedStr (h.1 P s s Str.empty _ (.refl s) y (by have hl:=Nat.le_of_ble_eq_true hl; simp only [List.length_cons]; show 0+_≤_; (revert hl; lia)) fun out s' m qd hlen=>by obtain ⟨σ',y',q⟩:=qd; exact ⟨by rw [sizeLine_eq]; (revert hlen; lia),⟨m.gens,m.drawn,m.os⟩,σ',y',q out⟩)
end
theorem slot_bytes_lt:Slot "bytes" (cmpInfo .Lt).2.1 "bytes.__lt__" :=
 .of (owner:="bytes") (n:="__lt__") (by rw [typeLookup_type,builtinLookup_eq_fast]; kernel_rfl) (by decide +kernel) (by decide +kernel) (by decide +kernel)
  (by first | exact .inl (by decide +kernel) | exact .inr (by decide +kernel)) (by rw [isSubtype_type]; kernel_rfl)
theorem entry_bytes_lt:entryFor table "bytes.__lt__"=some Builtin.«bytes.__lt__»:=entryFor_of_tree (by kernel_rfl)
theorem args_bytes_lt (a b:Value):argsOk "bytes.__lt__" ⟨[a,b],[]⟩:=by
 unfold argsOk; rw [signature?_of (id:="bytes.__lt__") (n:=['_','_','t','l','_','_']) (o:=['s','e','t','y','b']) (by kernel_rfl) FB.owner_bytes]; kernel_rfl
theorem gives_bytes_lt (b c:Array UInt8) (t u:Tok):Gives (Builtin.«bytes.__lt__» ⟨[.bytes b t,.bytes c u],[]⟩) (.val (.bool (Builtin.Bytes.order b.toList c.toList == .lt))):=by
 refine .of_wp fun M A E s Q hq=>?_
 show wpAny M A (isInstance (.bytes c u) (.type "bytes") >>= fun r=>_) _ E s
 refine wpAny_bind (wpAny_isInstance (typeIs_bytes s c u) F.sub_bytes_bytes ?_)
 exact wpAny_pure ⟨_,rfl,hq⟩
theorem slot_bytes_gt:Slot "bytes" (cmpInfo .Gt).2.1 "bytes.__gt__" :=
 .of (owner:="bytes") (n:="__gt__") (by rw [typeLookup_type,builtinLookup_eq_fast]; kernel_rfl) (by decide +kernel) (by decide +kernel) (by decide +kernel)
  (by first | exact .inl (by decide +kernel) | exact .inr (by decide +kernel)) (by rw [isSubtype_type]; kernel_rfl)
theorem entry_bytes_gt:entryFor table "bytes.__gt__"=some Builtin.«bytes.__gt__»:=entryFor_of_tree (by kernel_rfl)
theorem args_bytes_gt (a b:Value):argsOk "bytes.__gt__" ⟨[a,b],[]⟩:=by
 unfold argsOk; rw [signature?_of (id:="bytes.__gt__") (n:=['_','_','t','g','_','_']) (o:=['s','e','t','y','b']) (by kernel_rfl) FB.owner_bytes]; kernel_rfl
theorem gives_bytes_gt (b c:Array UInt8) (t u:Tok):Gives (Builtin.«bytes.__gt__» ⟨[.bytes b t,.bytes c u],[]⟩) (.val (.bool (Builtin.Bytes.order b.toList c.toList == .gt))):=by
 refine .of_wp fun M A E s Q hq=>?_
 show wpAny M A (isInstance (.bytes c u) (.type "bytes") >>= fun r=>_) _ E s
 refine wpAny_bind (wpAny_isInstance (typeIs_bytes s c u) F.sub_bytes_bytes ?_)
 exact wpAny_pure ⟨_,rfl,hq⟩
theorem slot_bytes_ge:Slot "bytes" (cmpInfo .GtE).2.1 "bytes.__ge__" :=
 .of (owner:="bytes") (n:="__ge__") (by rw [typeLookup_type,builtinLookup_eq_fast]; kernel_rfl) (by decide +kernel) (by decide +kernel) (by decide +kernel)
  (by first | exact .inl (by decide +kernel) | exact .inr (by decide +kernel)) (by rw [isSubtype_type]; kernel_rfl)
theorem entry_bytes_ge:entryFor table "bytes.__ge__"=some Builtin.«bytes.__ge__»:=entryFor_of_tree (by kernel_rfl)
theorem args_bytes_ge (a b:Value):argsOk "bytes.__ge__" ⟨[a,b],[]⟩:=by
 unfold argsOk; rw [signature?_of (id:="bytes.__ge__") (n:=['_','_','e','g','_','_']) (o:=['s','e','t','y','b']) (by kernel_rfl) FB.owner_bytes]; kernel_rfl
theorem gives_bytes_ge (b c:Array UInt8) (t u:Tok):Gives (Builtin.«bytes.__ge__» ⟨[.bytes b t,.bytes c u],[]⟩) (.val (.bool (Builtin.Bytes.order b.toList c.toList != .lt))):=by
 refine .of_wp fun M A E s Q hq=>?_
 show wpAny M A (isInstance (.bytes c u) (.type "bytes") >>= fun r=>_) _ E s
 refine wpAny_bind (wpAny_isInstance (typeIs_bytes s c u) F.sub_bytes_bytes ?_)
 exact wpAny_pure ⟨_,rfl,hq⟩
theorem slot_bytes_le:Slot "bytes" (cmpInfo .LtE).2.1 "bytes.__le__" :=
 .of (owner:="bytes") (n:="__le__") (by rw [typeLookup_type,builtinLookup_eq_fast]; kernel_rfl) (by decide +kernel) (by decide +kernel) (by decide +kernel)
  (by first | exact .inl (by decide +kernel) | exact .inr (by decide +kernel)) (by rw [isSubtype_type]; kernel_rfl)
theorem entry_bytes_le:entryFor table "bytes.__le__"=some Builtin.«bytes.__le__»:=entryFor_of_tree (by kernel_rfl)
theorem args_bytes_le (a b:Value):argsOk "bytes.__le__" ⟨[a,b],[]⟩:=by
 unfold argsOk; rw [signature?_of (id:="bytes.__le__") (n:=['_','_','e','l','_','_']) (o:=['s','e','t','y','b']) (by kernel_rfl) FB.owner_bytes]; kernel_rfl
theorem gives_bytes_le (b c:Array UInt8) (t u:Tok):Gives (Builtin.«bytes.__le__» ⟨[.bytes b t,.bytes c u],[]⟩) (.val (.bool (Builtin.Bytes.order b.toList c.toList != .gt))):=by
 refine .of_wp fun M A E s Q hq=>?_
 show wpAny M A (isInstance (.bytes c u) (.type "bytes") >>= fun r=>_) _ E s
 refine wpAny_bind (wpAny_isInstance (typeIs_bytes s c u) F.sub_bytes_bytes ?_)
 exact wpAny_pure ⟨_,rfl,hq⟩
section
variable {Φ:Act} {n:Nat} {P:PS} {M M':Loc} {σ:Sto} {Q:KV} {R:KL} {pos:Pos} {k:Nat} {F:KF}
noncomputable def copB (op:CmpOp) (b c:Array UInt8) (K:Bool→Prop):Prop:=match op with
 | .Lt=>K (Builtin.Bytes.order b.toList c.toList == .lt)
 | .Gt=>K (Builtin.Bytes.order b.toList c.toList == .gt)
 | .GtE=>K (Builtin.Bytes.order b.toList c.toList != .lt)
 | .LtE=>K (Builtin.Bytes.order b.toList c.toList != .gt)
 | _=>False
@[reducible] def kQb (Q:KV) (σ:Sto):Bool→Prop:=fun r=>Q (.bool r) σ
theorem cop_bytes {op:CmpOp} {a b:Array UInt8} (h:copB op a b (kQb Q σ)):∀ av bv,er av=.bytes a→er bv=.bytes b→SV Φ (compareOp op av bv) M σ Q R:=by
 intro av bv ea eb
 refine .mk fun P s y=>?_
 obtain ⟨t,rfl⟩:=er_bytes ea
 obtain ⟨u,rfl⟩:=er_bytes eb
 cases op <;> first | exact h.elim | skip
 ·exact compareOp_gives (op:=.Lt) (typeIs_bytes s a t) (typeIs_bytes s b u) slot_bytes_lt entry_bytes_lt (args_bytes_lt _ _) (gives_bytes_lt a b t u) (fun e=>by cases e) ⟨.refl s,σ,y,h⟩
 ·exact compareOp_gives (op:=.LtE) (typeIs_bytes s a t) (typeIs_bytes s b u) slot_bytes_le entry_bytes_le (args_bytes_le _ _) (gives_bytes_le a b t u) (fun e=>by cases e) ⟨.refl s,σ,y,h⟩
 ·exact compareOp_gives (op:=.Gt) (typeIs_bytes s a t) (typeIs_bytes s b u) slot_bytes_gt entry_bytes_gt (args_bytes_gt _ _) (gives_bytes_gt a b t u) (fun e=>by cases e) ⟨.refl s,σ,y,h⟩
 ·exact compareOp_gives (op:=.GtE) (typeIs_bytes s a t) (typeIs_bytes s b u) slot_bytes_ge entry_bytes_ge (args_bytes_ge _ _) (gives_bytes_ge a b t u) (fun e=>by cases e) ⟨.refl s,σ,y,h⟩
theorem SE_bytes {x:List UInt8} (q:Q (.bytes x.toArray) σ):SE Φ (.Constant (.bytes x) k pos) M σ Q R:=.mk <| .mk fun P s y=>Constant_bytes ⟨⟨rfl,rfl,rfl⟩,σ,y,q⟩
theorem look_bytes_bytes:typeLookup (.type "bytes") "__bytes__"=pure (some (.builtin "bytes.__bytes__")):=by rw [typeLookup_type,builtinLookup_eq_fast]; kernel_rfl
theorem wpAny_rule_bind {α:Type} {M:Model} {A:Around} {x:String} {f:Unit→Sem α} {Q:α→Shared→Prop} {E:Value→Shared→Prop} {s:Shared} (h:wpAny M A (f ()) Q E s):wpAny M A (rule x >>= f) Q E s:=wpAny_bind (wpAny_rule h)
theorem bytes_new {prog:Program} {w:World} {A:Around} {E:Value→Shared→Prop} {s:Shared} {b:Array UInt8} {t:Tok} {Q:Value→Shared→Prop} (h:Q (.bytes b t) s) :
  codeAny (model prog w) A (.call (.builtin "bytes.__new__") ⟨[.type "bytes",.bytes b t],[]⟩) (wants Q E) s:=by
 refine codeAny_of_tree ?_
 show wpAny _ A.in1 (do checkBuiltinCall "bytes.__new__" ⟨[.type "bytes",.bytes b t],[]⟩; again (.builtin "bytes.__new__" ⟨[.type "bytes",.bytes b t],[]⟩)) _ _ s
 refine wpAny_bind (wpAny_of_eq (F.bm_newCall _) (wpAny_pure ⟨plainId_quiet F.bm_plain _,codeAny_builtin F.bm_entry ?_⟩))
 rw [Around.under_plainId F.bm_plain _]
 unfold Builtin.«bytes.__new__»
 refine wpAny_bind (wpAny_of_eq (a:=true) rfl ?_)
 refine bm_if_false rfl ?_
 refine wpAny_bind (wpAny_of_eq F.bm_sub ?_)
 refine bm_if_false rfl ?_
 refine wpAny_bind (wpAny_of_eq (F.bm_bind _) ?_)
 refine wpAny_bind (wpAny_of_eq (a:=()) rfl ?_)
 refine wpAny_bind (wpAny_of_eq (a:=()) rfl ?_)
 refine bm_if_false rfl ?_
 refine wpAny_bind (wpAny_specialOf (typeIs_bytes s b t) look_bytes_bytes ?_)
 refine wpAny_rule_bind ?_
 refine wpAny_bind (wpAny_of_eq (a:=.type "bytes") rfl ?_)
 refine bm_if_true rfl ?_
 exact wpAny_pure h
theorem bytes_bytes {prog:Program} {w:World} {A:Around} {E:Value→Shared→Prop} {s:Shared} {b:Array UInt8} {t:Tok} {Q:Value→Shared→Prop} (h:Q (.bytes b t) s):wpAny (model prog w) A (call (.type "bytes") [.bytes b t]) Q E s:=by
 refine callType_codes (Q₁:=fun obj s₁=>s₁.TypeIs obj "bytes"∧Q obj s₁) F.bm_called (F.bm_typeCall _) F.entry_object_init (bytes_new ⟨typeIs_bytes s b t,h⟩) fun obj s₁ h₁=>?_
 exact ⟨h₁.1,F.args_object_init_2 obj _,object_init_meets F.bm_called.init.lookup F.bm_called.made (by decide) _ _ A.in1 _ s₁ ⟨h₁.1,rfl,h₁.2⟩⟩
theorem c_bytes_bytes {b:Array UInt8} (q:Q (.bytes b) σ):∀ vals,vals.map er=[.bytes b]→SV Φ (call (.type "bytes") vals) M σ Q R:=by
 intro vals hv
 refine .mk fun P s y=>?_
 obtain ⟨v,rfl,ev⟩:=map_er1 hv
 obtain ⟨t,rfl⟩:=er_bytes ev
 exact bytes_bytes ⟨.refl s,σ,y,q⟩
theorem ints_of_map {items:List Value} {ns:List Int} (h:items.map er=ns.map V.int):IntsAre items ns:=by
 induction items generalizing ns with
 | nil =>
  cases ns with
  | nil=>exact .nil
  | cons=>cases h
 | cons v vs ih =>
  cases ns with
  | nil=>cases h
  | cons n ns =>
   obtain ⟨h1,h2⟩:=List.cons.inj h
   obtain ⟨t,rfl⟩:=er_int h1
   exact .cons n t (ih h2)
theorem c_bytes_list (hh:Φ.A.handled=none) {a:Addr} {ns:List Int} (e:σ a=some (.list (ns.map V.int))) (hr:∀ n∈ns,0≤n∧n < 256) (hz:ns.length≤1000) (q:Q (.bytes (byteArr ns)) σ) :
  ∀ vals,vals.map er=[.ref a]→SV Φ (call (.type "bytes") vals) M σ Q R:=by
 intro vals hv
 refine .mk fun P s y=>?_
 obtain ⟨v,rfl,ev⟩:=map_er1 hv
 have:=er_ref ev; subst this
 obtain ⟨items,hl,hm⟩:=y.list e
 have hi:=ints_of_map hm
 exact call_bytes_ints hl hi hr (by rw [hi.length,sizeLine_eq]; (revert hz; lia)) hh fun h' t k hk=>⟨⟨rfl,rfl,rfl⟩,σ,y.keeps hk,q⟩
end
section
variable {Φ:Act} {n:Nat} {P:PS} {M M':Loc} {σ:Sto} {Q:KV} {R:KL} {pos:Pos} {k:Nat} {F:KF}
inductive kBs (ov:V) (Q:KV) (iv:V) (σ:Sto):Prop
 | mk (b:Array UInt8) (k:Int) (h:ov=.bytes b) (i:iv=.int k) (h0:0≤k) (h1:k≤b.size) (l:b.size≤1000000) (q:Q (.bytes (b.toList.take k.toNat).toArray) σ)
@[reducible] def kBs1 (Φ:Act) (i:Expr) (M:Loc) (Q:KV) (R:KL):KV:=fun ov σ=>SE Φ i M σ (kBs ov Q) R
theorem SE_bslice_upto {o i:Expr} {p:Pos} (ht:∀ ov r,letTemporaryGo o ov r=pure ())
  (h:SE Φ o M σ (kBs1 Φ i M Q R) R) :
  SE Φ (.Subscript o (.Slice none (some i) none p) pos) M σ Q R:=.mk <| .mk fun P s y =>
 wpAny_Subscript_Slice (T:="bytes") FB.slot_bytes_getitem.lookup (h.then (.refl s) y fun ov σ₁ s₁ m₁ y₁ h₁=>wpAny_Slice (wpAny_evalPart_none (wpAny_evalPart_some (h₁.then m₁ y₁ fun iv σ₂ s₂ m₂ y₂ qf=>by
  obtain ⟨b,k,eo,ei,h0,hk,hlen,q⟩:=qf
  obtain ⟨t,rfl⟩:=er_bytes eo
  obtain ⟨u,rfl⟩:=er_int ei
  rw [evalPart_none]
  refine wpAny_pure ⟨typeIs_bytes _ _ _,getItem_meets (typeIs_bytes _ _ _) (by decide) FB.slot_bytes_getitem FB.entry_bytes_getitem (FB.args_bytes_getitem_2 _ _) (KBc.meets_slice2 b t _ .none (.int k u))
   ⟨Heap.IsSliceOf.new _ _ _ _,Nat.le_trans (KBc.size_picked_le b _ _) (by rw [sizeLine_eq]; (revert hlen; lia)),fun t' kk=>?_⟩⟩
  rw [KBc.picked_eq]
  have ek:k=(k.toNat:Int):=by (revert h0; lia)
  have e1:(b.toList.drop ((none:Option Int).elim 0 (clipAt b.size))).take ((some k).elim b.size (clipAt b.size)-(none:Option Int).elim 0 (clipAt b.size))=b.toList.take k.toNat:=by
   have:clipAt b.size k=min k.toNat b.size:=(congrArg (clipAt b.size) ek).trans (clipAt_nat b.size k.toNat)
   simp only [Option.elim,List.drop_zero,Nat.sub_zero,this]
   rw [Nat.min_eq_left (by (revert hk ek; lia))]
  rw [e1]
  exact ⟨m₂.trans ⟨rfl,rfl,rfl⟩,σ₂,y₂.keeps fun b o e=>Heap.get?_push_of_some _ e,q⟩)))) ht
end
inductive D where
 | none
 | bool (b:Bool)
 | int (i:Int)
 | bytes (b:Array UInt8)
 | tup (xs:List D)
 | lst (xs:List D)
 | obj (C:Addr) (fs:List (Str×V))
noncomputable def D.ctorIdx (v:D):Nat:=@D.casesOn (fun _=>Nat) v 0 (fun _=>1) (fun _=>2) (fun _=>3) (fun _=>4) (fun _=>5) fun _ _=>6
mutual
noncomputable def Rep (σ:Sto):D→V→Prop
 | .none,v=>v=.none
 | .bool b,v=>v=.bool b
 | .int i,v=>v=.int i
 | .bytes b,v=>v=.bytes b
 | .tup xs,v=>∃ a vs,v=.ref a∧σ a=some (.tuple vs)∧Reps σ xs vs
 | .lst xs,v=>∃ a vs,v=.ref a∧σ a=some (.list vs)∧Reps σ xs vs
 | .obj C fs,v=>∃ a,v=.ref a∧σ a=some (.inst C fs)
noncomputable def Reps (σ:Sto):List D→List V→Prop
 | [],vs=>vs=[]
 | x::xs,vs=>∃ v vs',vs=v::vs'∧Rep σ x v∧Reps σ xs vs'
end
theorem Reps.nil {σ:Sto} {vs:List V} (h:Reps σ [] vs):vs=[]:=h
section
variable {σ:Sto} {xs:List D} {vs:List V}
theorem Reps.length (h:Reps σ xs vs):vs.length=xs.length:=by
 induction xs generalizing vs with
 | nil=>rw [h.nil]; rfl
 | cons x xs ih=>obtain ⟨v,vs',rfl,_,h⟩:=h; exact congrArg Nat.succ (ih h)
theorem Reps.get (h:Reps σ xs vs) {i:Nat} {v:V} (e:vs[i]?=some v):∃ x,xs[i]?=some x∧Rep σ x v:=by
 induction xs generalizing vs i with
 | nil=>rw [h.nil] at e; cases e
 | cons x xs ih =>
  obtain ⟨w,vs',rfl,h1,h⟩:=h
  cases i with
  | zero=>exact ⟨x,rfl,Option.some.inj e▸h1⟩
  | succ i=>exact ih h e
theorem Reps.at (h:Reps σ xs vs) {i:Nat} {x:D} (e:xs[i]?=some x):∃ v,vs[i]?=some v∧Rep σ x v:=by
 induction xs generalizing vs i with
 | nil=>cases e
 | cons y xs ih =>
  obtain ⟨w,vs',rfl,h1,h⟩:=h
  cases i with
  | zero=>exact ⟨w,rfl,Option.some.inj e▸h1⟩
  | succ i=>exact ih h e
theorem Reps.append {ys:List D} {ws:List V} (h:Reps σ xs vs) (h':Reps σ ys ws):Reps σ (xs++ys) (vs++ws):=by
 induction xs generalizing vs with
 | nil=>rw [h.nil]; exact h'
 | cons x xs ih=>obtain ⟨v,vs',rfl,h1,h⟩:=h; exact ⟨v,vs'++_,rfl,h1,ih h⟩
theorem Reps.snoc {x:D} {v:V} (h:Reps σ xs vs) (h':Rep σ x v):Reps σ (xs++[x]) (vs++[v]):=h.append ⟨v,[],rfl,h',rfl⟩
theorem Reps.take (h:Reps σ xs vs) (k:Nat):Reps σ (xs.take k) (vs.take k):=by
 induction xs generalizing vs k with
 | nil=>rw [h.nil,List.take_nil,List.take_nil]; exact rfl
 | cons x xs ih =>
  cases k with
  | zero=>exact rfl
  | succ k=>obtain ⟨v,vs',rfl,h1,h⟩:=h; exact ⟨v,vs'.take k,rfl,h1,ih h k⟩
theorem Reps.drop (h:Reps σ xs vs) (k:Nat):Reps σ (xs.drop k) (vs.drop k):=by
 induction xs generalizing vs k with
 | nil=>rw [h.nil,List.drop_nil,List.drop_nil]; exact rfl
 | cons x xs ih =>
  cases k with
  | zero=>exact h
  | succ k=>obtain ⟨v,vs',rfl,h1,h⟩:=h; exact ih h k
end
noncomputable def Sto.le (σ σ':Sto):Prop:=∀ a o,σ a=some o→σ' a=some o
theorem Rep.mono {σ σ':Sto} (l:σ.le σ') {d:D} {v:V} (h:Rep σ d v):Rep σ' d v:=by
 refine @D.rec (fun d=>∀ v,Rep σ d v→Rep σ' d v) (fun ds=>∀ vs,Reps σ ds vs→Reps σ' ds vs) (fun _ h=>h) (fun _ _ h=>h) (fun _ _ h=>h) (fun _ _ h=>h) ?_ ?_ ?_ (fun _ h=>h) ?_ d v h
 ·intro xs ih v h; obtain ⟨a,vs,e,h1,h2⟩:=h; exact ⟨a,vs,e,l _ _ h1,ih _ h2⟩
 ·intro xs ih v h; obtain ⟨a,vs,e,h1,h2⟩:=h; exact ⟨a,vs,e,l _ _ h1,ih _ h2⟩
 ·intro C fs v h; obtain ⟨a,e,h1⟩:=h; exact ⟨a,e,l _ _ h1⟩
 ·intro x xs ih ihs vs h; obtain ⟨v,vs',e,h1,h2⟩:=h; exact ⟨v,vs',e,ih _ h1,ihs _ h2⟩
theorem Reps.mono {σ σ':Sto} (l:σ.le σ') {ds:List D} {vs:List V} (h:Reps σ ds vs):Reps σ' ds vs:=by
 induction ds generalizing vs with
 | nil=>exact h
 | cons x xs ih=>obtain ⟨v,vs',e,h1,h2⟩:=h; exact ⟨v,vs',e,h1.mono l,ih h2⟩
theorem Sto.le_refl (σ:Sto):σ.le σ:=fun _ _ h=>h
theorem Sto.le_trans {a b c:Sto} (h:a.le b) (h':b.le c):a.le c:=fun x o e=>h' x o (h x o e)
theorem Sto.le_set {σ:Sto} {a:Addr} {o:O} (h:σ a=none):σ.le (σ.set a o):=fun b o' e=>by
 rw [Sto.set_ne (fun q=>by subst q; rw [h] at e; cases e)]; exact e
class inductive kin:Nat→D→D→Prop
 | none {n}:kin n .none .none
 | bool {n a b}:kin n (.bool a) (.bool b)
 | int {n a b}:kin n (.int a) (.int b)
 | bytes {n a b}:kin n (.bytes a) (.bytes b)
 | tup {n xs ys} (h:∀ p∈xs.zip ys,kin n p.1 p.2):kin (n+1) (.tup xs) (.tup ys)
 | lst {n xs ys} (h:∀ p∈xs.zip ys,kin n p.1 p.2):kin (n+1) (.lst xs) (.lst ys)
@[simp] theorem kin_none {n}:kin n .none .none=True:=eq_true .none
@[simp] theorem kin_bool {n a b}:kin n (.bool a) (.bool b)=True:=eq_true .bool
@[simp] theorem kin_int {n a b}:kin n (.int a) (.int b)=True:=eq_true .int
@[simp] theorem kin_bytes {n a b}:kin n (.bytes a) (.bytes b)=True:=eq_true .bytes
@[simp] theorem kin_tup {n xs ys}:kin (n+1) (.tup xs) (.tup ys)↔∀ p∈xs.zip ys,kin n p.1 p.2:=⟨fun h=>by cases h; assumption,.tup⟩
theorem Reps.unique {σ:Sto} {xs ys:List D} {vs:List V} (k:∀ p∈xs.zip ys,∀ v,Rep σ p.1 v→Rep σ p.2 v→p.1=p.2) (r:Reps σ xs vs) (r':Reps σ ys vs):xs=ys:=by
 induction xs generalizing ys vs with
 | nil =>
  cases ys with
  | nil=>rfl
  | cons y ys=>obtain ⟨_,_,e,_⟩:=r'; rw [r.nil] at e; cases e
 | cons x xs ih =>
  cases ys with
  | nil=>obtain ⟨_,_,e,_⟩:=r; rw [r'.nil] at e; cases e
  | cons y ys =>
   obtain ⟨v,vs',rfl,r1,r2⟩:=r
   obtain ⟨w,ws',e,q1,q2⟩:=r'
   cases e
   have e:x=y:=k (x,y) (.head _) v r1 q1
   rw [e,ih (fun p hp=>k p (.tail _ hp)) r2 q2]
theorem Rep.unique {σ:Sto} {n:Nat} {d d':D} {v:V} (k:kin n d d'):Rep σ d v→Rep σ d' v→d=d':=by
 induction k generalizing v with
 | none=>intros; rfl
 | bool=>intro r r'; cases Eq.trans (Eq.symm r) r'; rfl
 | int=>intro r r'; cases Eq.trans (Eq.symm r) r'; rfl
 | bytes=>intro r r'; cases Eq.trans (Eq.symm r) r'; rfl
 | tup _ ih =>
  rintro ⟨a,vs,rfl,h1,h2⟩ ⟨b,ws,e,g1,g2⟩
  cases e; cases h1.symm.trans g1
  rw [Reps.unique (fun p hp v=>ih p hp) h2 g2]
 | lst _ ih =>
  rintro ⟨a,vs,rfl,h1,h2⟩ ⟨b,ws,e,g1,g2⟩
  cases e; cases h1.symm.trans g1
  rw [Reps.unique (fun p hp v=>ih p hp) h2 g2]
section
open SeqAt
theorem EqAt.bytes_bytes {A:Around} {s:Shared} (b:Array UInt8) (t:Tok) (c:Array UInt8) (u:Tok):EqAt A s (.bytes b t) (.bytes c u) (b.toList == c.toList):=fun prog w E Q hq=>by
 unfold eqBool
 refine wpAny_holding ?_
 refine wpAny_ite_split (fun hab=>?_) (fun _=>?_)
 ·have e:=eq_of_beq hab
  injection e with e1 e2
  subst e1
  rw [show (b.toList == b.toList)=true by simp] at hq
  exact wpAny_pure (M:=model prog w) (E:=E) hq
 ·exact wpAny_bind (show wpAny (model prog w) A (compareOp .Eq (.bytes b t) (.bytes c u)) _ E s from eq_bytes (wpAny_truthy_bool hq))
noncomputable def pairD (xs ys:List D) (j:Nat):Bool:=@decide (xs[j]?=ys[j]?) (Classical.propDecidable _)
theorem pairD_all (xs ys:List D) (h:xs.length=ys.length):(List.range xs.length).all (pairD xs ys)=@decide (xs=ys) (Classical.propDecidable _):=by
 rw [Bool.eq_iff_iff,List.all_eq_true,@decide_eq_true_iff _ (Classical.propDecidable _)]
 constructor
 ·intro k
  refine List.ext_getElem? fun j=>?_
  by_cases hj:j < xs.length
  ·exact @of_decide_eq_true _ (Classical.propDecidable _) (k j (List.mem_range.mpr hj))
  ·rw [List.getElem?_eq_none (Nat.le_of_not_lt hj),List.getElem?_eq_none (h▸Nat.le_of_not_lt hj)]
 ·rintro rfl j _
  exact @decide_eq_true _ (Classical.propDecidable _) rfl
theorem pairD_min:∀ (xs ys:List D),((List.range (min xs.length ys.length)).all (pairD xs ys) && xs.length == ys.length)=@decide (xs=ys) (Classical.propDecidable _):=by
 intro xs ys
 by_cases h:xs.length=ys.length
 ·rw [h,Nat.min_self,← h,pairD_all xs ys h]; simp
 ·have:xs≠ys:=fun e=>h (by rw [e])
  simp [h,this]
noncomputable def Tied (σ:Sto) (c:Ctx) (h:Heap):Prop:=∀ a o,σ a=some o→∃ dx,ORel c h a dx o
theorem St.tied {Φ:Act} {P:PS} {M:Loc} {σ:Sto} {h:Heap} (y:St Φ P M σ h):Tied σ Φ.toCtx h:=fun a o e=>by
 obtain ⟨δ,R,_⟩:=y.st; exact ⟨δ a,R.rel a o e⟩
theorem Tied.list {σ:Sto} {c:Ctx} {h:Heap} (x:Tied σ c h) {a:Addr} {vs:List V} (e:σ a=some (.list vs)):∃ items:List Value,h.IsList a items.toArray∧items.map er=vs:=by
 obtain ⟨dx,items,n,ho,r⟩:=x a _ e; exact ⟨items,⟨_,ho,rfl,n,rfl⟩,r⟩
theorem Tied.tuple {σ:Sto} {c:Ctx} {h:Heap} (x:Tied σ c h) {a:Addr} {vs:List V} (e:σ a=some (.tuple vs)):∃ items:List Value,h.IsTuple a items.toArray∧items.map er=vs:=by
 obtain ⟨dx,items,⟨ob,ho,hc,n,hd⟩,r⟩:=x a _ e; exact ⟨items,⟨ob,ho,hc,n,hd⟩,r⟩
theorem dec_inj {α:Type} {f:α→D} (hf:∀ {a b},f a=f b→a=b) {a b:α} {p:Bool} (hp:p=true↔a=b):@decide (f a=f b) (Classical.propDecidable _)=p:=by
 rw [Bool.eq_iff_iff,@decide_eq_true_iff _ (Classical.propDecidable _),hp]; exact ⟨hf,congrArg f⟩
theorem rc_item {σ:Sto} {s:Shared} {A:Around} {xs ys:List D} {us ws:List Value} (ih:∀ p∈xs.zip ys,∀ v v',Rep σ p.1 (er v)→Rep σ p.2 (er v')→EqAt A s v v' (@decide (p.1=p.2) (Classical.propDecidable _)))
  (hr:Reps σ xs (us.map er)) (hr':Reps σ ys (ws.map er)) (j:Nat) (h1:j < us.length) (h2:j < ws.length):EqAt A s us[j] ws[j] (pairD xs ys j):=by
 obtain ⟨x,ex,rx⟩:=hr.get (i:=j) (v:=er us[j]) (by simp [h1])
 obtain ⟨z,ez,rz⟩:=hr'.get (i:=j) (v:=er ws[j]) (by simp [h2])
 have hm:(x,z)∈xs.zip ys:=List.mem_of_getElem? (i:=j) (List.getElem?_zip_eq_some.mpr ⟨ex,ez⟩)
 have e:pairD xs ys j=@decide (x=z) (Classical.propDecidable _):=by simp [pairD,ex,ez]
 rw [e]; exact ih _ hm _ _ rx rz
theorem rcAt_rep {σ:Sto} {c:Ctx} {s:Shared} (T:Tied σ c s.heap) (n:Nat) (d d':D) (A:Around) (v v':Value) (k:kin n d d'):Rep σ d (er v)→Rep σ d' (er v')→A.units+n < cLine →
  RcAt A s v v' (@decide (d=d') (Classical.propDecidable _))∧RcNeAt A s v v' (!@decide (d=d') (Classical.propDecidable _))∧EqAt A s v v' (@decide (d=d') (Classical.propDecidable _)):=by
 induction k generalizing A v v' with
 | none =>
  intro r r' _
  have e1:=er_none r; have e2:=er_none r'; subst e1; subst e2
  rw [show (@decide (D.none=D.none) (Classical.propDecidable _))=true from @decide_eq_true _ (Classical.propDecidable _) rfl]
  exact ⟨RcAt.none_none,RcNeAt.none_none,EqAt.same _⟩
 | @bool _ b b' =>
  intro r r' _
  have e1:=er_bool r; have e2:=er_bool r'; subst e1; subst e2
  rw [dec_inj (f:=D.bool) (fun e=>by cases e; rfl) (p:=b == b') beq_iff_eq]
  exact ⟨RcAt.bool_bool b b',RcNeAt.bool_bool b b',EqAt.bool_bool b b'⟩
 | @int _ i i' =>
  intro r r' _
  obtain ⟨t,e1⟩:=er_int r; obtain ⟨u,e2⟩:=er_int r'; subst e1; subst e2
  rw [dec_inj (f:=D.int) (fun e=>by cases e; rfl) (p:=i == i') beq_iff_eq]
  exact ⟨RcAt.int_int i t i' u,RcNeAt.int_int i t i' u,EqAt.int_int i t i' u⟩
 | @bytes _ b b' =>
  intro r r' _
  obtain ⟨t,e1⟩:=er_bytes r; obtain ⟨u,e2⟩:=er_bytes r'; subst e1; subst e2
  rw [dec_inj (f:=D.bytes) (fun e=>by cases e; rfl) (p:=b.toList == b'.toList) (beq_iff_eq.trans Array.toList_inj)]
  exact ⟨fun prog w E Q h=>eq_bytes h,fun prog w E Q h=>ne_bytes h,EqAt.bytes_bytes b t b' u⟩
 | @tup n xs ys h0 ih =>
  intro r r' hu
  have same:∀ {v},Rep σ (D.tup xs) v→Rep σ (D.tup ys) v→xs=ys:=fun a b=>by have:=Rep.unique (.tup h0) a b; injection this
  have r0:=r; have r0':=r'
  obtain ⟨a,vs,ea,h1,h2⟩:=r
  obtain ⟨b,ws,eb,g1,g2⟩:=r'
  have:=er_ref ea; subst this; have:=er_ref eb; subst this
  obtain ⟨us,hl,rfl⟩:=T.tuple h1
  obtain ⟨zs,hl',rfl⟩:=T.tuple g1
  have n1:=h2.length; have n2:=g2.length
  simp only [List.length_map] at n1 n2
  have ed:(@decide (D.tup xs=D.tup ys) (Classical.propDecidable _))=@decide (xs=ys) (Classical.propDecidable _):=dec_inj (f:=D.tup) (fun e=>by cases e; rfl) (@decide_eq_true_iff _ (Classical.propDecidable _))
  rw [ed,← pairD_min xs ys]
  have e3:((List.range (min us.toArray.size zs.toArray.size)).all (pairD xs ys) && us.toArray.size == zs.toArray.size)=((List.range (min xs.length ys.length)).all (pairD xs ys) && xs.length == ys.length):=by
   simp only [List.size_toArray,n1,n2]
  rw [← e3]
  have it:=fun j (j1:j < us.toArray.size) (j2:j < zs.toArray.size)=>by
   have:=rc_item (fun p hp v v' q q'=>(ih p hp A.in1 _ _ q q' (by show A.units+1+n < cLine; (revert hu; lia))).2.2) h2 g2 j (by simpa using j1) (by simpa using j2)
   exact (show EqAt A.in1 s us.toArray[j] zs.toArray[j] (pairD xs ys j) by simpa using this)
  refine ⟨RcAt.tuples hl hl' (by (revert hu; lia)) it,RcNeAt.tuples hl hl' (by (revert hu; lia)) it,?_⟩
  by_cases hab:a=b
  ·subst hab
   have:=same r0 r0'
   rw [e3,pairD_min,this]
   simp only [decide_true]
   exact EqAt.same _
  ·exact EqAt.of_refs hab (RcAt.tuples hl hl' (by (revert hu; lia)) it)
 | @lst n xs ys h0 ih =>
  intro r r' hu
  have same:∀ {v},Rep σ (D.lst xs) v→Rep σ (D.lst ys) v→xs=ys:=fun a b=>by have:=Rep.unique (.lst h0) a b; injection this
  have r0:=r; have r0':=r'
  obtain ⟨a,vs,ea,h1,h2⟩:=r
  obtain ⟨b,ws,eb,g1,g2⟩:=r'
  have:=er_ref ea; subst this; have:=er_ref eb; subst this
  obtain ⟨us,hl,rfl⟩:=T.list h1
  obtain ⟨zs,hl',rfl⟩:=T.list g1
  have n1:=h2.length; have n2:=g2.length
  simp only [List.length_map] at n1 n2
  have ed:(@decide (D.lst xs=D.lst ys) (Classical.propDecidable _))=@decide (xs=ys) (Classical.propDecidable _):=dec_inj (f:=D.lst) (fun e=>by cases e; rfl) (@decide_eq_true_iff _ (Classical.propDecidable _))
  rw [ed]
  have it:=fun j (j1:j < us.toArray.size) (j2:j < zs.toArray.size)=>by
   have:=rc_item (fun p hp v v' q q'=>(ih p hp A.in1 _ _ q q' (by show A.units+1+n < cLine; (revert hu; lia))).2.2) h2 g2 j (by simpa using j1) (by simpa using j2)
   exact (show EqAt A.in1 s us.toArray[j] zs.toArray[j] (pairD xs ys j) by simpa using this)
  have main:RcAt A s (.ref a) (.ref b) (@decide (xs=ys) (Classical.propDecidable _))∧RcNeAt A s (.ref a) (.ref b) (!@decide (xs=ys) (Classical.propDecidable _)):=by
   by_cases hz:us.length=zs.length
   ·rw [← pairD_all xs ys (by (revert n1 n2 hz; lia))]
    have e3:(List.range us.toArray.size).all (pairD xs ys)=(List.range xs.length).all (pairD xs ys):=by simp only [List.size_toArray,n1]
    rw [← e3]
    exact ⟨RcAt.lists hl hl' (by simpa using hz) (by (revert hu; lia)) it,RcNeAt.lists hl hl' (by simpa using hz) (by (revert hu; lia)) it⟩
   ·have:xs≠ys:=fun e=>hz (by rw [n1,n2,e])
    simp only [this,decide_false]
    exact ⟨RcAt.lists_lengths hl hl' (by simpa using hz) (by (revert hu; lia)),RcNeAt.lists_lengths hl hl' (by simpa using hz) (by (revert hu; lia))⟩
  refine ⟨main.1,main.2,?_⟩
  by_cases hab:a=b
  ·subst hab
   have:=same r0 r0'
   rw [this]
   simp only [decide_true]
   exact EqAt.same _
  ·exact EqAt.of_refs hab main.1
end
theorem list_end {σ:Sto} {α:Type} {f:α→D} {todo:List α} (h:Reps σ (todo.map f) []):todo=[]:=by
 cases todo with
 | nil=>rfl
 | cons p ra=>obtain ⟨_,_,e,_⟩:=h; cases e
theorem list_more {σ:Sto} {α:Type} {f:α→D} {todo:List α} {v:V} {rest:List V} (h:Reps σ (todo.map f) (v::rest)):∃ p ra,todo=p::ra∧Rep σ (f p) v∧Reps σ (ra.map f) rest:=by
 cases todo with
 | nil=>cases h
 | cons p ra =>
  obtain ⟨_,_,e,h1,h2⟩:=h
  cases e
  exact ⟨p,ra,rfl,h1,h2⟩
open SeqAt
theorem eqb_int {prog:Program} {w:World} {A:Around} {E:Value→Shared→Prop} {s:Shared} {a b:Int} {t u:Tok} {Q:Bool→Shared→Prop} (h:Q (a == b) s):wpAny (model prog w) A (eqBool (.int a t) (.int b u)) Q E s:=EqAt.int_int a t b u prog w E Q h
theorem rc_gt {prog:Program} {w:World} {A:Around} {E:Value→Shared→Prop} {s:Shared} {a b:Int} {t u:Tok} {Q:Value→Shared→Prop} (h:Q (.bool (decide (a > b))) s):wpAny (model prog w) A (richCompare .Gt (.int a t) (.int b u)) Q E s:=PySem.P.gt_int h
theorem rc_lt {prog:Program} {w:World} {A:Around} {E:Value→Shared→Prop} {s:Shared} {a b:Int} {t u:Tok} {Q:Value→Shared→Prop} (h:Q (.bool (decide (a < b))) s):wpAny (model prog w) A (richCompare .Lt (.int a t) (.int b u)) Q E s:=PySem.P.lt_int h
open Builtin in
theorem pair_gtAt (l b:Addr) (a1 a2 b1 b2:Int) (t1 t2 u1 u2:Tok) (n n2:Nat) (dd dd2:Option Addr) (sl sl2:Array (Option Value)) :
  Meets (Builtin.«tuple.__gt__» ⟨[.ref l,.ref b],[]⟩)
   (fun A R s=>s.heap.get? l=some { cls:=.type "tuple",dict:=dd,data:=.seq #[.int a1 t1,.int a2 t2] n,slots:=sl }∧s.heap.get? b=some { cls:=.type "tuple",dict:=dd2,data:=.seq #[.int b1 u1,.int b2 u2] n2,slots:=sl2 } ∧
    R (.ok (.ret (.bool (if a1=b1 then decide (a2 > b2) else decide (a1 > b1))))) s) :=
 .of_wp fun prog w A R s h=>by
  obtain ⟨hp,g,d,tk,os⟩:=s; obtain ⟨hl,hb,h⟩:=h
  have f2:=AutoSeq1.sub_tuple_tuple
  wp_walk using wpAny_loadPart' hl,wpAny_loadPart' hb,eqb_int
  by_cases e1:a1=b1
  ·rw [if_pos e1] at h
   have e1':(a1 == b1)=true:=by simp [e1]
   rw [e1']
   wp_walk using eqb_int
   by_cases e2:a2=b2
   ·have e2':(a2 == b2)=true:=by simp [e2]
    rw [e2']
    wp_walk
    have:decide (a2 > b2)=false:=by simp [e2]
    rw [this] at h
    exact ⟨_,rfl,h⟩
   ·have e2':(a2 == b2)=false:=by simp [e2]
    rw [e2']
    wp_walk using rc_gt
    exact ⟨_,rfl,h⟩
  ·rw [if_neg e1] at h
   have e1':(a1 == b1)=false:=by simp [e1]
   rw [e1']
   wp_walk using rc_gt
   exact ⟨_,rfl,h⟩
open Builtin in
theorem pair_ltAt (l b:Addr) (a1 a2 b1 b2:Int) (t1 t2 u1 u2:Tok) (n n2:Nat) (dd dd2:Option Addr) (sl sl2:Array (Option Value)) :
  Meets (Builtin.«tuple.__lt__» ⟨[.ref l,.ref b],[]⟩)
   (fun A R s=>s.heap.get? l=some { cls:=.type "tuple",dict:=dd,data:=.seq #[.int a1 t1,.int a2 t2] n,slots:=sl }∧s.heap.get? b=some { cls:=.type "tuple",dict:=dd2,data:=.seq #[.int b1 u1,.int b2 u2] n2,slots:=sl2 } ∧
    R (.ok (.ret (.bool (if a1=b1 then decide (a2 < b2) else decide (a1 < b1))))) s) :=
 .of_wp fun prog w A R s h=>by
  obtain ⟨hp,g,d,tk,os⟩:=s; obtain ⟨hl,hb,h⟩:=h
  have f2:=AutoSeq1.sub_tuple_tuple
  wp_walk using wpAny_loadPart' hl,wpAny_loadPart' hb,eqb_int
  by_cases e1:a1=b1
  ·rw [if_pos e1] at h
   have e1':(a1 == b1)=true:=by simp [e1]
   rw [e1']
   wp_walk using eqb_int
   by_cases e2:a2=b2
   ·have e2':(a2 == b2)=true:=by simp [e2]
    rw [e2']
    wp_walk
    have:decide (a2 < b2)=false:=by simp [e2]
    rw [this] at h
    exact ⟨_,rfl,h⟩
   ·have e2':(a2 == b2)=false:=by simp [e2]
    rw [e2']
    wp_walk using rc_lt
    exact ⟨_,rfl,h⟩
  ·rw [if_neg e1] at h
   have e1':(a1 == b1)=false:=by simp [e1]
   rw [e1']
   wp_walk using rc_lt
   exact ⟨_,rfl,h⟩
section
variable {Φ:Act} {n m:Nat} {P:PS} {M M':Loc} {σ:Sto} {Q:KV} {R:KL} {pos:Pos} {k:Nat} {F:KF}
theorem pair_at {s:Shared} {a:Addr} {x y:Int} (T:Tied σ Φ.toCtx s.heap) (e:σ a=some (.tuple [.int x,.int y])):∃ t u nn dd sl,s.heap.get? a=some { cls:=.type "tuple",dict:=dd,data:=.seq #[.int x t,.int y u] nn,slots:=sl }:=by
 obtain ⟨items,⟨⟨cls,dd,data,sl⟩,ho,hc,nn,hd⟩,r⟩:=T.tuple e
 simp only at hc hd
 subst hc; subst hd
 obtain ⟨v,w,rfl,e1,e2⟩:=map_er2 r
 obtain ⟨t,rfl⟩:=er_int e1
 obtain ⟨u,rfl⟩:=er_int e2
 exact ⟨t,u,nn,dd,sl,ho⟩
theorem cop_pair_gt (ok:Φ.Ok m) {a b:Addr} {x y z w:Int} (h1:σ a=some (.tuple [.int x,.int y])) (h2:σ b=some (.tuple [.int z,.int w])) (q:Q (.bool (if x=z then decide (y > w) else decide (x > z))) σ) :
  ∀ av bv,er av=.ref a→er bv=.ref b→SV Φ (compareOp .Gt av bv) M σ Q R:=by
 intro av bv ea eb
 refine .mk fun P s y'=>?_
 have:=er_ref ea; subst this; have:=er_ref eb; subst this
 obtain ⟨t,u,nn,dd,sl,ho⟩:=pair_at y'.tied h1
 obtain ⟨t',u',nn',dd',sl',ho'⟩:=pair_at y'.tied h2
 have hu:=ok.units
 exact richCompare_meets_room (op:=.Gt) ⟨_,ho,rfl⟩ ⟨_,ho',rfl⟩ F.slot_tuple_gt F.entry_tuple_gt (F.args_tuple_gt_2 _ _) (pair_gtAt a b x y z w t u t' u' nn nn' dd dd' sl sl') ⟨ho,ho',(fun e=>nomatch e),⟨.refl s,σ,y',q⟩⟩ (by unfold cLine; (revert hu; lia))
theorem cop_eq_rep (ok:Φ.Ok m) {d d':D} {a b:V} (n:Nat) (hn:n≤100) (hk:kin n d d') (r:Rep σ d a) (r':Rep σ d' b) {bb:Bool} (hb:bb=true↔d=d') (q:Q (.bool bb) σ) :
  ∀ av bv,er av=a→er bv=b→SV Φ (compareOp .Eq av bv) M σ Q R:=by
 intro av bv ea eb
 refine .mk fun P s y=>?_
 have hu:=ok.units
 have e:bb=@decide (d=d') (Classical.propDecidable _):=by rw [Bool.eq_iff_iff,hb]; simp
 subst e
 exact (rcAt_rep y.tied n d d' Φ.A av bv hk (by rw [ea]; exact r) (by rw [eb]; exact r') (by unfold cLine; (revert hn hu; lia))).1 _ _ _ _ ⟨.refl s,σ,y,q⟩
theorem cop_ne_rep (ok:Φ.Ok m) {d d':D} {a b:V} (n:Nat) (hn:n≤100) (hk:kin n d d') (r:Rep σ d a) (r':Rep σ d' b) {bb:Bool} (hb:bb=true↔d=d') (q:Q (.bool (!bb)) σ) :
  ∀ av bv,er av=a→er bv=b→SV Φ (compareOp .NotEq av bv) M σ Q R:=by
 intro av bv ea eb
 refine .mk fun P s y=>?_
 have hu:=ok.units
 have e:bb=@decide (d=d') (Classical.propDecidable _):=by rw [Bool.eq_iff_iff,hb]; simp
 subst e
 exact (rcAt_rep y.tied n d d' Φ.A av bv hk (by rw [ea]; exact r) (by rw [eb]; exact r') (by unfold cLine; (revert hn hu; lia))).2.1 _ _ _ _ ⟨.refl s,σ,y,q⟩
open Classical in
theorem cop_notin_rep (ok:Φ.Ok m) {d:D} {xs:List D} {a b:V} (n:Nat) (hn:n≤100) (hk:∀ x∈xs,kin n x d) (r:Rep σ d a) (r':Rep σ (.lst xs) b) {bb:Bool} (hb:bb=true↔d∈xs) (q:Q (.bool (!bb)) σ) :
  ∀ av bv,er av=a→er bv=b→SV Φ (compareOp .NotIn av bv) M σ Q R:=by
 intro av bv ea eb
 refine .mk fun P s y=>?_
 have hu:=ok.units
 obtain ⟨l,vs,rfl,hl,hr⟩:=r'
 have:=er_ref eb; subst this
 obtain ⟨items,hi,hm⟩:=y.tied.list hl
 subst hm
 -- the answer of each item
 let e:Value→Bool:=fun v=>decide (∃ x∈xs,Rep σ x (er v)∧x=d)
 refine notIn_listAt e hi (fun v hv=>?_) ?_
 ·have hv':v∈items:=by simpa using hv
  obtain ⟨i,hi',rfl⟩:=List.getElem_of_mem hv'
  obtain ⟨x,ex,rx⟩:=hr.get (i:=i) (v:=er items[i]) (by simp [hi'])
  have hx:x∈xs:=List.mem_of_getElem? ex
  have main:=(rcAt_rep y.tied n x d Φ.A.in1 items[i] av (hk x hx) rx (by rw [ea]; exact r) (by show Φ.A.units+1+n < cLine; unfold cLine; (revert hn hu; lia))).2.2
  have ee:e items[i]=@decide (x=d) (Classical.propDecidable _):=by
   show decide _=_
   rw [Bool.eq_iff_iff]; simp only [decide_eq_true_eq]
   constructor
   ·rintro ⟨z,hz,rz,rfl⟩
    exact Rep.unique (hk x hx) rx rz
   ·intro q; exact ⟨x,hx,rx,q⟩
  rw [ee]; exact main
 ·have:items.toArray.any e=bb:=by
   rw [Bool.eq_iff_iff,hb]
   simp only [List.any_toArray,List.any_eq_true]
   constructor
   ·rintro ⟨v,hv,q⟩
    obtain ⟨x,hx,_,rfl⟩:=of_decide_eq_true q
    exact hx
   ·intro hd
    obtain ⟨i,hi',e1⟩:=List.getElem_of_mem hd
    obtain ⟨v,ev,rv⟩:=hr.at (i:=i) (x:=d) (by rw [List.getElem?_eq_getElem hi',e1])
    rw [List.getElem?_map,Option.map_eq_some_iff] at ev
    obtain ⟨w,ew,rfl⟩:=ev
    exact ⟨w,List.mem_of_getElem? ew,decide_eq_true ⟨d,hd,rv,rfl⟩⟩
  rw [this]
  exact ⟨.refl s,σ,y,q⟩
end
section
variable {Φ:Act} {n:Nat} {P:PS} {M M':Loc} {σ:Sto} {h h':Heap}
theorem St.addO {a dx:Addr} {o:O} (x:St Φ P M σ h) (hrel:ORel Φ.toCtx h a dx o) (hni:∀ C fs,o≠.inst C fs) (hb:Φ.base.get? a=none) (hp:a∉prot Φ P)
  (hf:∀ δ,HRel Φ.toCtx σ h δ→(∀ a o,σ a=some o→∀ b∈fp a (δ a) o,Φ.base.get? b=none∧b∉prot Φ P)→∀ a' o,σ a'=some o→a∉fp a' (δ a') o):σ a=none∧St Φ P M (σ.set a o) h:=by
 obtain ⟨fr,ps,⟨δ,R,hb'⟩,nd,old,out⟩:=x
 have hf:=hf δ R hb'
 have hnone:σ a=none:=by
  cases e:σ a with
  | none=>rfl
  | some o₀=>exact absurd (fp_self _ _ _) (hf a o₀ e)
 have hfp:∀ d,fp a d o=[a]:=fun d=>by cases o <;> first | rfl | exact absurd rfl (hni _ _)
 refine ⟨hnone,fr,ps,⟨δ,⟨fun b o' e=>?_,fun b o1 b' o2 z e1 e2 m1 m2=>?_,fun b C fs e=>?_⟩,fun b o' e z hz=>?_⟩,nd,old,out⟩
 ·by_cases q:b=a
  ·subst q
   rw [Sto.set_same] at e; cases e
   cases o <;> first | exact hrel | exact absurd rfl (hni _ _)
  ·rw [Sto.set_ne q] at e
   exact R.rel b o' e
 ·by_cases q1:b=a
  ·by_cases q2:b'=a
   ·rw [q1,q2]
   ·subst q1
    rw [Sto.set_same] at e1; cases e1
    rw [Sto.set_ne q2] at e2
    rw [hfp] at m1; simp at m1; subst m1
    exact absurd m2 (hf _ _ e2)
  ·by_cases q2:b'=a
   ·subst q2
    rw [Sto.set_same] at e2; cases e2
    rw [Sto.set_ne q1] at e1
    rw [hfp] at m2; simp at m2; subst m2
    exact absurd m1 (hf _ _ e1)
   ·rw [Sto.set_ne q1] at e1
    rw [Sto.set_ne q2] at e2
    exact R.sep b o1 b' o2 z e1 e2 m1 m2
 ·by_cases q:b=a
  ·subst q
   rw [Sto.set_same] at e; injection e with e
   exact absurd e (hni _ _)
  ·rw [Sto.set_ne q] at e
   exact R.two b C fs e
 ·by_cases q:b=a
  ·subst q
   rw [Sto.set_same] at e; cases e
   rw [hfp] at hz; simp at hz; subst hz
   exact ⟨hb,hp⟩
  ·rw [Sto.set_ne q] at e
   exact hb' b o' e z hz
noncomputable def cellVars (vs:Vars):Vars:=vs.filter (·.2.isSome)
noncomputable def cellM (vs:Vars) (M:Loc):Loc:=@List.rec (Str×Option Addr) (fun _=>Loc→Loc) (fun _=>[]) (fun v _ ih M=>@Option.rec Addr (fun _=>Loc) (ih M.tail) (fun _=>M.head?.join::ih M.tail) v.2) vs M
noncomputable def compVars (Φ:Act) (b:Bool) (xs:List Str):Vars:=(xs.map fun x=>(x,none))++(if b then cellVars Φ.vars else [])
noncomputable def compAct (Φ:Act) (b:Bool) (xs:List Str) (env':Env) (C:Addr) (m:Str→Option Value):Act:={ Φ with env:=env',comp:=some C,vars:=compVars Φ b xs,mf:=m }
noncomputable def compPS (Φ:Act) (b:Bool) (P:PS) (h:Heap):PS :=
 Φ.comp.toList.map (fun C=>(C,fun o=>h.get? C=some o))++((if b then [] else Φ.cells.map (fun c=>(c,fun o=>h.get? c=some o)))++P)
noncomputable def capM (Φ:Act) (b:Bool) (M:Loc):Loc:=if b then cellM Φ.vars M else []
theorem cellVars_cells {Φ:Act}:(cellVars Φ.vars).filterMap (·.2)=Φ.cells:=by
 unfold cellVars Act.cells
 induction Φ.vars with
 | nil=>rfl
 | cons v vs ih =>
  obtain ⟨x,c⟩:=v
  cases c with
  | none=>exact ih
  | some c=>exact congrArg (c::·) ih
theorem NRel.cells {m mc:Str→Option Value} {h:Heap} {vs:Vars} {M:Loc} (n:NRel m h vs M):NRel mc h (cellVars vs) (cellM vs M):=by
 induction n with
 | nil=>exact .nil
 | @cons v vs o M e _ ih =>
  obtain ⟨x,c⟩:=v
  cases c with
  | none=>exact ih
  | some c=>exact .cons e ih
theorem NRel.app {m:Str→Option Value} {h:Heap} {ws vs:Vars} {N M:Loc} (k:NRel m h ws N) (n:NRel m h vs M):NRel m h (vs++ws) (M++N):=by
 induction n with
 | nil=>exact k
 | cons e _ ih=>exact .cons e ih
theorem NRel.unapp {m:Str→Option Value} {h:Heap} {ws vs:Vars} {N M:Loc} (e:vs.length=M.length) (k:NRel m h (vs++ws) (M++N)):NRel m h ws N:=by
 induction vs generalizing M with
 | nil =>
  cases M with
  | nil=>exact k
  | cons=>cases e
 | cons v vs ih =>
  cases M with
  | nil=>cases e
  | cons o M=>cases k with | cons _ k=>exact ih (Nat.succ.inj e) k
theorem NRel.merge {m m':Str→Option Value} {h h':Heap} {vs:Vars} {M:Loc} (n:NRel m h vs M) (k:NRel m' h' (cellVars vs) (cellM vs M)):NRel m h' vs M:=by
 induction n with
 | nil=>exact .nil
 | @cons v vs o M e _ ih =>
  obtain ⟨x,c⟩:=v
  cases c with
  | none=>exact .cons e (ih k)
  | some c=>cases k with | cons e' k=>exact .cons e' (ih k)
theorem compPS_perm {b:Bool} {env':Env} {C:Addr} {xs:List Str} {m:Str→Option Value} {h₀:Heap}:(prot (compAct Φ b xs env' C m) (compPS Φ b P h₀)).Perm (C::prot Φ P):=by
 have e1:(compAct Φ b xs env' C m).cells=if b then Φ.cells else []:=by
  show (compVars Φ b xs).filterMap (·.2)=_
  unfold compVars
  rw [List.filterMap_append]
  have:(xs.map fun x=>((x,none):Str×Option Addr)).filterMap (·.2)=[]:=by simp [List.filterMap_eq_nil_iff]
  rw [this]
  cases b <;> simp [cellVars_cells]
 have e2:(compPS Φ b P h₀).map (·.1)=Φ.comp.toList++((if b then [] else Φ.cells)++P.map (·.1)):=by
  unfold compPS
  simp only [List.map_append,List.map_map]
  rw [show ((fun x:Addr×(Obj→Prop)=>x.1) ∘ fun C=>(C,fun o=>h₀.get? C=some o))=id from rfl,List.map_id]
  cases b <;> simp [Function.comp_def]
 show (Φ.L::([C]++((compAct Φ b xs env' C m).cells++(compPS Φ b P h₀).map (·.1)))).Perm _
 rw [e1,e2]
 refine List.Perm.trans (List.Perm.swap _ _ _) (List.Perm.cons _ ?_)
 refine List.Perm.cons _ ?_
 cases b with
 | false=>simp
 | true =>
  simp only [if_true,List.nil_append]
  rw [← List.append_assoc,← List.append_assoc]
  exact List.Perm.append_right _ List.perm_append_comm
theorem compPS_mem {b:Bool} {env':Env} {C:Addr} {xs:List Str} {m:Str→Option Value} {h₀:Heap} {d:Addr}:d∈prot (compAct Φ b xs env' C m) (compPS Φ b P h₀)↔d=C∨d∈prot Φ P:=compPS_perm.mem_iff.trans List.mem_cons
theorem compPS_nodup {b:Bool} {env':Env} {C:Addr} {xs:List Str} {m:Str→Option Value} {h₀:Heap} (nd:(prot Φ P).Nodup) (hC:C∉prot Φ P):(prot (compAct Φ b xs env' C m) (compPS Φ b P h₀)).Nodup:=compPS_perm.nodup_iff.mpr (List.nodup_cons.mpr ⟨hC,nd⟩)
theorem St.intoComp {b:Bool} {xs:List Str} {env':Env} {C:Addr} {m mc:Str→Option Value} (y:St Φ P M σ h) (F:Fr Φ.base Φ.L h m) (N:Names Φ M m h) (hC:h.get? C=none) (k:∀ b o,h.get? b=some o→h'.get? b=some o)
  (hn:h'.Ns C mc) (hfree:∀ x∈xs,mc x=none):St (compAct Φ b xs env' C m) (compPS Φ b P h) ((xs.map fun _=>none)++capM Φ b M) σ h':=by
 have hCp:C∉prot Φ P:=fun q=>by obtain ⟨o,ho⟩:=y.has C q; rw [hC] at ho; cases ho
 have hCb:Φ.base.get? C=none:=by
  cases q:Φ.base.get? C with
  | none=>rfl
  | some ob=>rw [F.keep C ob q] at hC; cases hC
 have hCf:∀ δ,HRel Φ.toCtx σ h δ→∀ a o,σ a=some o→C∉fp a (δ a) o:=fun δ R a o e q=>by
  obtain ⟨ob,hob⟩:=(R.rel a o e).some C q
  rw [hC] at hob; cases hob
 have N':NRel mc h' (compVars Φ b xs) ((xs.map fun _=>none)++capM Φ b M):=by
  refine NRel.app ?_ (NRel_free hfree)
  cases b with
  | false=>exact .nil
  | true =>
   simp only [capM,if_true]
   have gen:NRel mc h (cellVars Φ.vars) (cellM Φ.vars M):=by
    unfold Names at N
    cases hc:Φ.comp with
    | none=>rw [hc] at N; exact N.cells
    | some C0=>rw [hc] at N; obtain ⟨_,mc0,_,r⟩:=N; exact r.cells
   exact gen.same fun b _ o e=>k b o e
 obtain ⟨δ,R,hb⟩:=y.st
 refine ⟨⟨m,⟨?_,fun b o e=>k b o (F.keep b o e),F.above⟩,rfl,mc,hn,N'⟩,fun p hp=>?_,⟨δ,⟨fun a o e=>(R.rel a o e).same fun z hz=>?_,R.sep,R.two⟩,fun a o e z hz=>⟨(hb a o e z hz).1,fun q=>?_⟩⟩,compPS_nodup y.nd hCp,fun d hd=>?_,fun env he=>?_⟩
 ·obtain ⟨o,ho,hp⟩:=of_ns F.ns
  exact ns_of (k _ o ho) hp
 ·simp only [compPS,List.mem_append,List.mem_map] at hp
  rcases hp with ⟨c,hc,rfl⟩ | hp | hp
  ·obtain ⟨o,ho⟩:=y.has c (by simp only [prot,List.mem_cons,List.mem_append]; exact .inr (.inl hc))
   exact ⟨o,k c o ho,ho⟩
  ·cases b with
   | true=>simp at hp
   | false =>
    simp only [Bool.false_eq_true,if_false,List.mem_map] at hp
    obtain ⟨c,hc,rfl⟩:=hp
    obtain ⟨o,ho⟩:=y.has c (by simp only [prot,List.mem_cons,List.mem_append]; exact .inr (.inr (.inl hc)))
    exact ⟨o,k c o ho,ho⟩
  ·obtain ⟨o,ho,hp'⟩:=y.ps p hp
   exact ⟨o,k _ o ho,hp'⟩
 ·obtain ⟨ob,hob⟩:=(R.rel a o e).some z hz
  rw [hob]; exact k _ _ hob
 ·rcases compPS_mem.mp q with q | q
  ·exact hCf δ R a o e (q▸hz)
  ·exact (hb a o e z hz).2 q
 ·rcases compPS_mem.mp hd with rfl | hd
  ·exact hCb
  ·exact y.old d hd
 ·obtain ⟨h1,L,h2,m',h3⟩:=y.out env he
  exact ⟨h1,L,h2,m',by simp only [compPS,List.mem_append]; exact .inr (.inr h3)⟩
theorem St.outOfComp {b:Bool} {xs:List Str} {env':Env} {C:Addr} {m:Str→Option Value} {tv:Loc} {σ':Sto} {h₀ h'':Heap} (x:St Φ P M σ h₀) (F:Fr Φ.base Φ.L h₀ m) (N:Names Φ M m h₀) (hC:C∉prot Φ P) (hlen:tv.length=xs.length)
  (y:St (compAct Φ b xs env' C m) (compPS Φ b P h₀) (tv++capM Φ b M) σ' h') (k:∀ b o,b≠C→h'.get? b=some o→h''.get? b=some o):St Φ P M σ' h'':=by
 obtain ⟨⟨m',F',N'⟩,ps,⟨δ,R,hb⟩,nd,old,out⟩:=y
 obtain ⟨em,mc,hn,hr⟩:=N'
 have em:m'=m:=em
 subst em
 have hCb:Φ.base.get? C=none:=old C (compPS_mem.mpr (.inl rfl))
 have hCne:∀ d∈prot Φ P,d≠C:=fun d hd q=>hC (q▸hd)
 have hr':NRel mc h' (if b then cellVars Φ.vars else []) (capM Φ b M):=NRel.unapp (by simp [hlen]) hr
 have kk:∀ d∈prot Φ P,∀ o,h'.get? d=some o→h''.get? d=some o:=fun d hd o e=>k d o (hCne d hd) e
 refine ⟨⟨m',⟨?_,fun d o e=>k d o (fun q=>by rw [q,hCb] at e; cases e) (F'.keep d o e),F.above⟩,?_⟩,fun p hp=>?_,⟨δ,⟨fun a o e=>(R.rel a o e).same fun z hz=>?_,R.sep,R.two⟩,fun a o e z hz=>⟨(hb a o e z hz).1,fun q=>(hb a o e z hz).2 (compPS_mem.mpr (.inr q))⟩⟩,x.nd,x.old,x.out⟩
 ·obtain ⟨o,ho,hp⟩:=of_ns F'.ns
  exact ns_of (kk Φ.L (by simp [prot]) o ho) hp
 ·-- the names of the activation
  have cellsKept:∀ {mm:Str→Option Value},NRel mm h₀ Φ.vars M→NRel mm h'' Φ.vars M:=by
   intro mm r
   cases b with
   | true =>
    simp only [if_true,capM] at hr'
    refine (r.merge hr').same fun c hc o e=>kk c ?_ o e
    simp only [prot,List.mem_cons,List.mem_append,Act.cells]; exact .inr (.inr (.inl hc))
   | false =>
    refine r.same fun c hc o e=>?_
    obtain ⟨o',ho',hp'⟩:=ps (c,fun o=>h₀.get? c=some o) (by
     simp only [compPS,List.mem_append]; exact .inr (.inl (by rw [if_neg (by simp)]; exact List.mem_map.mpr ⟨c,hc,rfl⟩)))
    have e2:h₀.get? c=some o':=hp'
    rw [e] at e2; cases e2
    exact kk c (by simp only [prot,List.mem_cons,List.mem_append,Act.cells]; exact .inr (.inr (.inl hc))) o ho'
  unfold Names at N ⊢
  cases hc:Φ.comp with
  | none=>rw [hc] at N; exact cellsKept N
  | some C0 =>
   rw [hc] at N
   obtain ⟨e0,mc0,hn0,r0⟩:=N
   obtain ⟨o,ho,hp⟩:=of_ns hn0
   obtain ⟨o',ho',hp'⟩:=ps (C0,fun o=>h₀.get? C0=some o) (by simp only [compPS,List.mem_append]; exact .inl (by simp [hc]))
   have e2:h₀.get? C0=some o':=hp'
   rw [ho] at e2; cases e2
   exact ⟨e0,mc0,ns_of (kk C0 (by simp [prot,hc]) o ho') hp,cellsKept r0⟩
 ·obtain ⟨o,ho,hp'⟩:=ps p (by simp only [compPS,List.mem_append]; exact .inr (.inr hp))
  exact ⟨o,kk p.1 (by simp only [prot,List.mem_cons,List.mem_append,List.mem_map]; exact .inr (.inr (.inr ⟨p,hp,rfl⟩))) o ho,hp'⟩
 ·obtain ⟨ob,hob⟩:=(R.rel a o e).some z hz
  rw [hob]
  exact k z ob (fun q=>(hb a o e z hz).2 (compPS_mem.mpr (.inl q))) hob
end
section
variable {Φ:Act} {n:Nat} {P:PS} {M M':Loc} {σ:Sto} {h h':Heap}
theorem St.bump {I:Addr} {p q:Obj→Prop} (y:St Φ ((I,p)::P) M σ h) (out:∀ env∈Φ.outer,env.scope.kind≠.module∧∃ L,env.frame=some L∧∃ m,(L,NsP m)∈P)
  (k:∀ b o,b≠I→h.get? b=some o→h'.get? b=some o) (ho:∃ o,h'.get? I=some o∧q o):St Φ ((I,q)::P) M σ h':=by
 obtain ⟨y0,hb,hp,hf,_⟩:=y.dropP out
 have y1:=y0.but (h':=h') hb hp hf k
 exact y1.addP hb hp (fun δ Rr hbb a o e hm=>by
   obtain ⟨δ0,R0,h0⟩:=y0.st
   cases o with
   | inst C fs =>
    simp [fp] at hm
    obtain ⟨g1,es,kk,g2,_⟩:=R0.rel a _ e
    obtain ⟨g3,_⟩:=Rr.rel a _ e
    have hIa:a≠I:=fun q=>hf δ0 R0 h0 a _ e (by rw [← q]; exact fp_self _ _ _)
    rw [k a _ hIa g1] at g3
    injection g3 with g3
    injection g3 with _ g3 _ _
    injection g3 with g3
    rcases hm with hm | hm
    ·exact hIa hm.symm
    ·exact hf δ0 R0 h0 a _ e (by rw [hm,← g3]; simp [fp])
   | _=>exact hf δ0 R0 h0 a _ e hm) ho
theorem St.perm {P':PS} (hp:P.Perm P') (y:St Φ P M σ h):St Φ P' M σ h:=by
 have hk:(prot Φ P).Perm (prot Φ P'):=List.Perm.cons _ (List.Perm.append_left _ (List.Perm.append_left _ (hp.map _)))
 obtain ⟨fr,ps,⟨δ,R,hb⟩,nd,old,out⟩:=y
 refine ⟨fr,fun p hm=>ps p (hp.mem_iff.mpr hm),⟨δ,R,fun a o e b hm=>⟨(hb a o e b hm).1,fun q=>(hb a o e b hm).2 (hk.mem_iff.mpr q)⟩⟩,hk.nodup_iff.mp nd,fun b hm=>old b (hk.mem_iff.mpr hm),fun env he=>?_⟩
 obtain ⟨h1,L,h2,m,h3⟩:=out env he
 exact ⟨h1,L,h2,m,hp.mem_iff.mp h3⟩
theorem St.sub {σ':Sto} (l:σ'.le σ) (y:St Φ P M σ h):St Φ P M σ' h:=by
 obtain ⟨fr,ps,⟨δ,R,hb⟩,nd,old,out⟩:=y
 exact ⟨fr,ps,⟨δ,⟨fun a o e=>R.rel a o (l a o e),fun a o a' o' b e e'=>R.sep a o a' o' b (l _ _ e) (l _ _ e'),fun a C fs e=>R.two a C fs (l _ _ e)⟩,fun a o e=>hb a o (l _ _ e)⟩,nd,old,out⟩
noncomputable def ListP (acc:List V) (ob:Obj):Prop:=∃ (items:List Value) (n:Nat),ob=listOf items.toArray n∧items.map er=acc
theorem St.takeO {D:Addr} {acc:List V} (y:St Φ P M (σ.set D (.list acc)) h) (hD:σ D=none):St Φ ((D,ListP acc)::P) M σ h:=by
 have y0:=y.sub (Sto.le_set hD)
 obtain ⟨dx,⟨items,nn,ho,hm⟩,h1,_⟩:=y.acc (a:=D) (o:=.list acc) Sto.set_same
 obtain ⟨h2,h3⟩:=h1 D (by simp [fp])
 refine y0.addP h2 h3 (fun δ Rr hbb a o e hm'=>?_) ⟨_,ho,items,nn,rfl,hm⟩
 obtain ⟨δ0,R0,_⟩:=y.st
 have ha:a≠D:=fun q=>by rw [q,hD] at e; cases e
 have e':(σ.set D (.list acc)) a=some o:=by rw [Sto.set_ne ha]; exact e
 have hfp:fp a (δ a) o=fp a (δ0 a) o:=by
  cases o with
  | inst C fs =>
   obtain ⟨g1,_⟩:=R0.rel a _ e'
   obtain ⟨g3,_⟩:=Rr.rel a _ e
   rw [g1] at g3
   injection g3 with g3
   injection g3 with _ g3 _ _
   injection g3 with g3
   rw [g3]
  | _=>rfl
 rw [hfp] at hm'
 exact ha (R0.sep a o D (.list acc) D e' Sto.set_same hm' (by simp [fp]))
theorem St.giveO {D:Addr} {acc:List V} (y:St Φ ((D,ListP acc)::P) M σ h) (out:∀ env∈Φ.outer,env.scope.kind≠.module∧∃ L,env.frame=some L∧∃ m,(L,NsP m)∈P) :
  σ D=none∧St Φ P M (σ.set D (.list acc)) h:=by
 obtain ⟨y0,hb,hp,hf,o,ho,items,nn,rfl,hm⟩:=y.dropP out
 exact y0.addO (a:=D) (dx:=0) (o:=.list acc) ⟨items,nn,ho,hm⟩ (fun _ _ q=>by cases q) hb hp hf
end
section
variable {prog:Program} {w:World} {A:Around} {R:Result→Shared→Prop} {s:Shared}
noncomputable abbrev NoE:Value→Shared→Prop:=fun _ _=>False
theorem compLoop_go {elt target iter:Expr} {ifs:List Expr} {scope:Scope} {pos:Pos} {it acc:Value} {env:Env} (I:Nat→Shared→Prop)
  (turn:∀ n s,I n s→wpAny (model prog w) A (pyNext it) (fun r s₁=>match r with
   | none=>R (.ok .next) s₁
   | some v=>wpAny (model prog w) A (letOwnedTupleGo target it v) (fun _ s₁=>wpAny (model prog w) A (assign target env v) (fun _ s₂ =>
     wpAny (model prog w) A (forIn ifs true fun c r=>if r=true then do let ok ← isTrue c env (eval c env); pure (ForInStep.yield ok) else pure (ForInStep.yield r)) (fun ok s₃ =>
      if ok=true then wpAny (model prog w) A (eval elt env) (fun x s₄ =>
       wpAny (model prog w) A (call (.builtin "list.append") [acc,x]) (fun _ s₅=>∃ m,m < n∧I m s₅) NoE s₄) NoE s₃
      else ∃ m,m < n∧I m s₃) NoE s₂) NoE s₁) NoE s₁) NoE s)
  (n:Nat) (h:I n s) :
  codeAny (model prog w) A (.compLoop (.ListComp elt [⟨target,iter,ifs,0⟩] scope pos) 0 it acc env) R s:=by
 refine codeAny_loop rfl I (fun n s hI=>?_) n h
 show wpAny _ A ((compTurn (.ListComp elt [⟨target,iter,ifs,0⟩] scope pos) 0 it acc env).onRaise (fun x=>do noteFrame x env; theTreesLotGoes x)) _ _ s
 refine wpAny_noted ?_
 rw [compTurn_list]
 refine wpAny_bind (wpAny_standAt (wpAny_bind (wpAny_mono (turn n s hI) (fun r s₁ h₁=>?_) fun _ _ h'=>h'.elim)))
 cases r with
 | none=>exact wpAny_pure h₁
 | some v =>
  refine wpAny_bind (wpAny_mono h₁ (fun _ s₂ h₁=>?_) fun _ _ x=>x.elim)
  refine wpAny_bind (wpAny_mono h₁ (fun _ s₂ h₂=>wpAny_bind (wpAny_mono h₂ (fun ok s₃ h₃=>?_) fun _ _ h'=>h'.elim)) fun _ _ h'=>h'.elim)
  cases ok with
  | false=>exact wpAny_pure ⟨rfl,h₃⟩
  | true =>
   exact wpAny_bind (wpAny_bind (wpAny_mono h₃ (fun x s₄ h₄=>wpAny_bind (wpAny_mono h₄ (fun _ s₅ h₅=>wpAny_pure (wpAny_pure ⟨rfl,h₅⟩)) fun _ _ h'=>h'.elim)) fun _ _ h'=>h'.elim))
end
section
variable {Φ:Act} {n:Nat} {P:PS} {M M':Loc} {σ:Sto}
noncomputable abbrev NoR:KL:=fun _ _=>False
theorem PX.no {s:Shared} {x:Value} {s':Shared} (h:PX Φ P s NoR x s'):False:=by obtain ⟨_,_,_,_,_,f,_⟩:=h; exact f
noncomputable def CT (Φ:Act) (ifs:List Expr) (M:Loc) (σ:Sto) (q:KB):Prop:=@List.rec Expr (fun _=>Prop) (q true σ) (fun c l _=>@List.rec Expr (fun _=>Prop) (ST Φ c M σ q NoR) (fun _ _ _=>False) l) ifs
@[reducible] def kCe (G:KA) (acc:List V):KV:=fun x σ=>G (acc++[x]) σ
@[reducible] def kCt (Φ:Act) (elt:Expr) (M:Loc) (G:KA) (acc:List V):KB:=fun ok σ=>if ok=true then SE Φ elt M σ (kCe G acc) NoR else G acc σ
theorem CT_nil {elt:Expr} {G:KA} {acc:List V} (h:SE Φ elt M σ (kCe G acc) NoR):CT Φ [] M σ (kCt Φ elt M G acc):=(if_pos rfl:(if true=true then SE Φ elt M σ (kCe G acc) NoR else G acc σ)=_).mpr h
theorem CT_one {c:Expr} {q:KB} (h:ST Φ c M σ q NoR):CT Φ [c] M σ q:=h
inductive kCs (Φ:Act) (ifs:List Expr) (elt:Expr) (cap:Loc) (nx:Nat) (G:KA) (acc:List V) (M:Loc) (σ:Sto):Prop
 | mk (tv:Loc) (h:M=tv++cap) (l:tv.length=nx) (q:CT Φ ifs M σ (kCt Φ elt M G acc))
noncomputable def CG (Φ:Act) (target elt:Expr) (ifs:List Expr) (src:Sto→Prop) (cap:Loc) (nx:Nat) (K:KA):List V→KA
 | [],acc,σ=>src σ∧K acc σ
 | v::rest,acc,σ=>src σ∧acc.length < 100000∧∀ tv:Loc,tv.length=nx→SG Φ (assign target Φ.env) v (tv++cap) σ (kCs Φ ifs elt cap nx (CG Φ target elt ifs src cap nx K rest) acc) NoR
theorem CG.src {target elt:Expr} {ifs:List Expr} {src:Sto→Prop} {cap:Loc} {nx:Nat} {K:KA} {rest acc:List V} (h:CG Φ target elt ifs src cap nx K rest acc σ):src σ:=by
 cases rest <;> exact h.1
inductive CI (Φ:Act) (target elt:Expr) (ifs:List Expr) (src:Sto→Prop) (vs:List V) (IO:Nat→Obj→Prop) (cap:Loc) (nx:Nat) (K:KA) (P:PS) (I D:Addr) (s₀:Shared):Nat→Shared→Prop
 | mk {i:Nat} {rest acc:List V} {tv:Loc} {σ:Sto} {s:Shared} (hi:vs.drop i=rest) (hil:i≤vs.length) (m:Sm s₀ s) (htv:tv.length=nx) (h:CG Φ target elt ifs src cap nx K rest acc σ) (y:St Φ ((D,ListP acc)::(I,IO i)::P) (tv++cap) σ s.heap):CI Φ target elt ifs src vs IO cap nx K P I D s₀ rest.length s
theorem comp_sound {target elt iter:Expr} {ifs:List Expr} {scope:Scope} {pos:Pos} {I D:Addr} {src:Sto→Prop} {vs:List V} {IO:Nat→Obj→Prop} (S:Stepper Φ target I src vs IO) {cap:Loc} {nx:Nat} {K:KA}
  (out:∀ env∈Φ.outer,env.scope.kind≠.module∧∃ L,env.frame=some L∧∃ m,(L,NsP m)∈P) {s₀:Shared} {Rr:Result→Shared→Prop}
  (hR:∀ s' tv σ acc,Sm s₀ s'→tv.length=nx→St Φ ((D,ListP acc)::P) (tv++cap) σ s'.heap→K acc σ→Rr (.ok .next) s')
  {s:Shared} {tv:Loc} {acc:List V} (m:Sm s₀ s) (htv:tv.length=nx) (hg:CG Φ target elt ifs src cap nx K vs acc σ) (y:St Φ ((D,ListP acc)::(I,IO 0)::P) (tv++cap) σ s.heap) :
  codeAny (model Φ.prog Φ.w) Φ.A (.compLoop (.ListComp elt [⟨target,iter,ifs,0⟩] scope pos) 0 (.ref I) (.ref D) Φ.env) Rr s:=by
 refine compLoop_go (CI Φ target elt ifs src vs IO cap nx K P I D s₀) ?_ vs.length (.mk (i:=0) rfl (Nat.zero_le _) m htv hg y)
 rintro _ s (@⟨i,rest,acc,tv,σ,_,hi,hil,m,htv,h,y⟩)
 have outI:∀ {p:Obj→Prop},∀ env∈Φ.outer,env.scope.kind≠.module∧∃ L,env.frame=some L∧∃ m,(L,NsP m)∈((I,p)::P):=fun env he=>by
  obtain ⟨h1,L,h2,m,h3⟩:=out env he; exact ⟨h1,L,h2,m,.tail _ h3⟩
 have outD:∀ {p:Obj→Prop},∀ env∈Φ.outer,env.scope.kind≠.module∧∃ L,env.frame=some L∧∃ m,(L,NsP m)∈((D,p)::P):=fun env he=>by
  obtain ⟨h1,L,h2,m,h3⟩:=out env he; exact ⟨h1,L,h2,m,.tail _ h3⟩
 have ys:=y.perm (List.Perm.swap _ _ _)
 obtain ⟨y0,hb,hp,hf,ho⟩:=ys.dropP outD
 have hne:∀ l,(∃ vs,σ l=some (.list vs))→l≠I:=fun l qb q=>by
  obtain ⟨vs',e⟩:=qb
  obtain ⟨δ,Rr,hbb⟩:=y0.st
  exact hf δ Rr hbb l _ e (by rw [← q]; exact fp_self _ _ _)
 cases rest with
 | nil =>
  have hil':vs.length≤i:=List.drop_eq_nil_iff.mp hi
  have hii:i=vs.length:=Nat.le_antisymm hil hil'
  subst hii
  refine S.done _ _ σ s _ _ y0 h.src ho hne fun h' tk k=>?_
  dsimp only
  exact hR _ tv σ acc (m.trans ⟨rfl,rfl,rfl⟩) htv (y0.but hb hp hf k) h.2
 | cons v rest =>
  have hv:vs[i]?=some v:=by
   have:=congrArg (·[0]?) hi
   simpa using this
  have hi':vs.drop (i+1)=rest:=by
   rw [← List.drop_drop,hi]; rfl
  have hi1:i+1≤vs.length:=(List.getElem?_eq_some_iff.mp hv).1
  refine S.item i v _ _ σ s _ _ hv y0 h.src ho hne fun u h₁ tk eu ho₁ k=>?_
  dsimp only
  have y2:=(ys.bump outD k ho₁).perm (List.Perm.swap _ _ _)
  refine S.letGo (i+1) u { s with heap:=h₁,toks:=tk } _ _ ho₁ ?_
  have m1:Sm s₀ { s with heap:=h₁,toks:=tk }:=⟨m.gens,m.drawn,m.os⟩
  obtain ⟨_,hlen,hg⟩:=h
  refine wpAny_mono ((hg tv htv).1 _ { s with heap:=h₁,toks:=tk } u eu y2) (fun _ s₂ qq=>?_) fun _ _ x=>x.no
  obtain ⟨m₂,M₂,σ₂,y₂,tv₂,eM,htv₂,q₂⟩:=qq
  subst eM
  have fin:∀ (ok:Bool) (s₃:Shared) (σ₃:Sto),Sm s₀ s₃→St Φ ((D,ListP acc)::(I,IO (i+1))::P) (tv₂++cap) σ₃ s₃.heap →
    kCt Φ elt (tv₂++cap) (CG Φ target elt ifs src cap nx K rest) acc ok σ₃ →
    (if ok=true then wpAny (model Φ.prog Φ.w) Φ.A (eval elt Φ.env) (fun x s₄ =>
       wpAny (model Φ.prog Φ.w) Φ.A (call (.builtin "list.append") [.ref D,x]) (fun _ s₅=>∃ m,m < (v::rest).length∧CI Φ target elt ifs src vs IO cap nx K P I D s₀ m s₅) NoE s₄) NoE s₃
      else ∃ m,m < (v::rest).length∧CI Φ target elt ifs src vs IO cap nx K P I D s₀ m s₃):=by
   intro ok s₃ σ₃ m₃ y₃ q₃
   cases ok with
   | false =>
    simp only [Bool.false_eq_true,if_false] at q₃ ⊢
    exact ⟨rest.length,Nat.lt_succ_self _,.mk hi' hi1 m₃ htv₂ q₃ y₃⟩
   | true =>
    simp only [if_true] at q₃ ⊢
    refine wpAny_mono (q₃.1.1 _ s₃ y₃) (fun x s₄ qq=>?_) fun _ _ x=>x.no
    obtain ⟨m₄,σ₄,y₄,q₄⟩:=qq
    obtain ⟨hD,y₅⟩:=y₄.giveO outI
    refine wpAny_mono (l_append (Φ:=Φ) (R:=NoR) (σ:=σ₄.set D (.list acc)) (Q:=fun v σ'=>σ'=(σ₄.set D (.list acc)).set D (.list (acc++[er x]))) (v:=er x) Sto.set_same (by (revert hlen; lia)) rfl [.ref D,x] rfl |>.1 _ s₄ y₅)
     (fun _ s₅ qq=>?_) fun _ _ x=>x.no
    obtain ⟨m₅,σ₅,y₆,e₅⟩:=qq
    subst e₅
    have e6:(σ₄.set D (.list acc)).set D (.list (acc++[er x]))=σ₄.set D (.list (acc++[er x])):=by funext b; simp only [Sto.set]; split <;> rfl
    rw [e6] at y₆
    exact ⟨rest.length,Nat.lt_succ_self _,.mk hi' hi1 (m₃.trans (m₄.trans m₅)) htv₂ q₄ (y₆.takeO hD)⟩
  rcases ifs with _ | ⟨c,_ | _⟩
  ·exact wpAny_tests_nil (fin true s₂ σ₂ (m1.trans m₂) y₂ q₂)
  ·refine wpAny_tests_one ?_
   exact wpAny_mono (q₂.1.1 _ s₂ y₂) (fun ok s₃ qc=>by obtain ⟨m₃,σ₃,y₃,q₃⟩:=qc; exact fin ok s₃ σ₃ (m1.trans (m₂.trans m₃)) y₃ q₃) fun _ _ x=>x.no
  ·exact q₂.elim
structure InComp (Φ:Act) (n:Nat) (b:Bool) (xs:List Str) (scope:Scope) (cl:List (Str×Addr)) (Φ':Act):Prop where
 ok:Φ'.Ok n
 ctx:Φ'.toCtx=Φ.toCtx
 env:∃ C,Φ'.env=compEnvC scope cl C Φ.env
 comp:∃ C,Φ'.comp=some C
 vars:Φ'.vars=compVars Φ b xs
 A:Φ'.A=Φ.A
structure CompOk (Φ:Act) (b:Bool) (xs:List Str) (scope:Scope) (cl:List (Str×Addr)):Prop where
 clos:closureFor scope Φ.env=pure cl
 kind:scope.kind=.function
 names:∀ x∈scope.names,x.2=.local→scope.names.lookup x.1=some .local
 noCell:∀ x∈scope.names,x.2≠.cell
 nms:(scope.names.map (·.1)).Nodup
 locs:∀ x∈xs,(x,NameKind.local)∈(relabel scope Φ.env).names
 caps:b=true→∀ v∈cellVars Φ.vars,(v.1,NameKind.cell)∈(relabel scope Φ.env).names∧(∀ c,v.2=some c→cl.lookup v.1=some c)
 vnd:((compVars Φ b xs).map (·.1)).Nodup
 dbg:∀ v∈scope.names,(v.1 == ("__debug__" : Str))=false
theorem relabel_names {scope:Scope} {env:Env}:(relabel scope env).names.map (·.1)=scope.names.map (·.1):=by
 simp only [relabel,List.map_map]
 refine List.map_congr_left fun x _=>?_
 obtain ⟨a,k⟩:=x
 simp only [Function.comp]
 split <;> rfl
theorem InComp.mk' (ok:Φ.Ok n) {b:Bool} {xs:List Str} {scope:Scope} {cl:List (Str×Addr)} (co:CompOk Φ b xs scope cl) {C:Addr} {m:Str→Option Value} (hL:C≠Φ.L) :
  InComp Φ n b xs scope cl (compAct Φ b xs (compEnvC scope cl C Φ.env) C m) where
 ok:={
  ctx:=ok.ctx
  hand:=ok.hand
  frames:=ok.frames
  ff:=ok.ff
  fk:=ok.fk
  depth:=ok.depth
  units:=ok.units
  compf:=fun q=>hL (by injection q)
  kind:=co.kind
  loc:=rfl
  glob:=ok.glob
  blt:=ok.blt
  nms:=by show ((relabel scope Φ.env).names.map (·.1)).Nodup; rw [relabel_names]; exact co.nms
  vok:=fun v hv=>by
   have hv':v∈compVars Φ b xs:=hv
   unfold compVars at hv'
   rcases List.mem_append.mp hv' with h1 | h1
   ·obtain ⟨x,hx,rfl⟩:=List.mem_map.mp h1
    exact co.locs x hx
   ·cases b with
    | false=>simp at h1
    | true =>
     simp only [if_true] at h1
     obtain ⟨g1,g2⟩:=co.caps rfl v h1
     have hs:v.2.isSome=true:=(List.mem_filter.mp h1).2
     obtain ⟨x,c⟩:=v
     cases c with
     | none=>simp at hs
     | some c=>exact ⟨g1,g2 c rfl⟩
  vnd:=co.vnd
  dbg:=fun v hv=>by
   have:v.1∈(relabel scope Φ.env).names.map (·.1):=List.mem_map.mpr ⟨v,hv,rfl⟩
   rw [relabel_names] at this
   obtain ⟨u,hu,e⟩:=List.mem_map.mp this
   rw [← e]; exact co.dbg u hu
  fn:=fun q=>by cases q }
 ctx:=rfl
 env:=⟨C,rfl⟩
 comp:=⟨C,rfl⟩
 vars:=rfl
 A:=rfl
@[reducible] def kCq (Q:KV):KA:=fun acc σ=>∀ a,σ a=none→Q (.ref a) (σ.set a (.list acc))
@[reducible] def kCu (vs:Vars) (M:Loc) (x:Str) (F:KF):KA:=fun acc σ=>∀ a,σ a=none→kAs vs M x F (.ref a) (σ.set a (.list acc))
inductive kCi (Φ:Act) (n:Nat) (b:Bool) (xs:List Str) (scope:Scope) (cl:List (Str×Addr)) (target elt:Expr) (ifs:List Expr) (M:Loc) (K:KA) (v:V) (σ:Sto):Prop
 | mk (l:Addr) (vs:List V) (h:v=.ref l) (e:σ l=some (.list vs)) (q:∀ Φ',InComp Φ n b xs scope cl Φ'→CG Φ' target elt ifs (kLs l vs) (capM Φ b M) xs.length K vs [] σ)
inductive kCn (Φ:Act) (n:Nat) (b:Bool) (xs:List Str) (scope:Scope) (cl:List (Str×Addr)) (target elt:Expr) (ifs:List Expr) (M:Loc) (K:KA) (v:V) (σ:Sto):Prop
 | mk (bb:Int) (h:v=.int bb) (b1:-(2 ^ 62)≤bb) (b2:bb < 2 ^ 62) (q:∀ Φ',InComp Φ n b xs scope cl Φ'→CG Φ' target elt ifs (fun _=>True) (capM Φ b M) xs.length K (rng 0 bb) [] σ)
noncomputable abbrev IsNs:Obj→Prop:=fun o=>∃ m,NsP m o
theorem comp_core (ok:Φ.Ok (n+1)) {b:Bool} {xs:List Str} {scope:Scope} {cl:List (Str×Addr)} (co:CompOk Φ b xs scope cl) {target elt iter:Expr} {ifs:List Expr} {pos:Pos} {E:Value→Shared→Prop} {K:KA}
  {RR:Value→Addr→Result→Shared→Prop}
  {I:Addr} {src:Sto→Prop} {vs:List V} {IO:Nat→Obj→Prop} (S:∀ Φ':Act,Φ'.A=Φ.A→Stepper Φ' target I src vs IO)
  (self:∀ (s':Shared) (Q:Value→Shared→Prop) (E:Value→Shared→Prop),(∃ o,s'.heap.get? I=some o∧IO 0 o)→Q (.ref I) s'→wpAny (model Φ.prog Φ.w) Φ.A (pyIter (.ref I)) Q E s')
  {s s₁:Shared} (m₁:Sm s s₁) (y₁:∀ env∈Φ.outer,env.scope.kind≠.module∧∃ L,env.frame=some L∧∃ m,(L,NsP m)∈P) {σ₁:Sto} (y2:St Φ ((I,IO 0)::P) M σ₁ s₁.heap)
  (hg:∀ Φ',InComp Φ (n+1) b xs scope cl Φ'→CG Φ' target elt ifs src (capM Φ b M) xs.length K vs [] σ₁)
  (hRR:∀ D C s' σ' acc,Sm s s'→St Φ ((C,IsNs)::P) M (σ'.set D (.list acc)) s'.heap→σ' D=none→K acc σ'→RR (.ref D) C (.ok .next) s') :
  wpAny (model Φ.prog Φ.w) Φ.A (newList []) (fun acc s₃=>wpAny (model Φ.prog Φ.w) Φ.A (newFunctionEnv scope Φ.env.globals cl [] Φ.env.qual none .none (some Φ.env)) (fun cenv s₄ =>
    codeAny (model Φ.prog Φ.w) Φ.A (.compStart (.ListComp elt [⟨target,iter,ifs,0⟩] scope pos) 0 (.ref I) acc { cenv with scope:=relabel scope Φ.env }) (RR acc cenv.locals) s₄) E s₃) E s₁:=by
 generalize hH1:s₁.heap=H1 at y2
 refine wpAny_newObj_type ?_
 rw [hH1]
 generalize hH2:H1.push { cls:=.type "list",dict:=none,data:=.seq ([]:List Value).toArray }=H2
 have y3:St Φ ((H1.objs.size,ListP [])::(I,IO 0)::P) M σ₁ H2:=by
  have:=y2.hid (s:={ s₁ with heap:=H1 }) (ob:={ cls:=.type "list",dict:=none,data:=.seq ([]:List Value).toArray }) rfl
  rw [← hH2]
  refine this.bump y2.out (fun _ _ _ e=>e) ⟨_,Heap.get?_push_size _ rfl,[],0,rfl,rfl⟩
 refine wpAny_newFunctionEnv co.noCell (by intro x hx; simp at hx) (fun h₁ hns₁ hsb₁=>?_) co.kind
 dsimp only at hns₁ hsb₁
 have hCn:H2.get? H2.objs.size=none:=none_size (s:={ s₁ with heap:=H2 }) (Nat.le_refl _)
 have kk:∀ b o,H2.get? b=some o→h₁.get? b=some o:=fun b o e=>hsb₁.extBut b o (fun q=>by rw [q,hCn] at e; cases e) (Heap.get?_push_of_some _ e)
 obtain ⟨mm,F,N⟩:=y3.fr
 have y3':St Φ P M σ₁ H2:=((y3.dropP y2.out).1.dropP y₁).1
 have hCp:H2.objs.size∉prot Φ P:=fun q=>by obtain ⟨o,ho⟩:=y3'.has _ q; rw [hCn] at ho; cases ho
 have hCL:H2.objs.size≠Φ.L:=fun q=>hCp (by rw [q]; simp [prot])
 have ic:=InComp.mk' ok co (C:=H2.objs.size) (m:=mm) hCL
 have y4:=y3.intoComp (b:=b) (xs:=xs) (env':=compEnvC scope cl H2.objs.size Φ.env) F N hCn kk hns₁ (fun x _=>rfl)
 have hperm:(compPS Φ b ((H1.objs.size,ListP [])::(I,IO 0)::P) H2).Perm ((H1.objs.size,ListP [])::(I,IO 0)::compPS Φ b P H2):=by
  unfold compPS
  rw [← List.append_assoc,← List.append_assoc]
  refine List.perm_middle.trans (List.Perm.cons _ ?_)
  exact List.perm_middle
 have y5:=y4.perm hperm
 have loop:∀ (t:Nat),codeAny (model Φ.prog Φ.w) Φ.A (.compLoop (.ListComp elt [⟨target,iter,ifs,0⟩] scope pos) 0 (.ref I) (.ref H1.objs.size) (compEnvC scope cl H2.objs.size Φ.env))
   (RR (.ref H1.objs.size) H2.objs.size) { s₁ with heap:=h₁,toks:=t }:=by
  intro t
  have hg':=hg _ ic
  have oc:∀ env∈(compAct Φ b xs (compEnvC scope cl H2.objs.size Φ.env) H2.objs.size mm).outer,env.scope.kind≠.module∧∃ L,env.frame=some L∧∃ m,(L,NsP m)∈compPS Φ b P H2:=fun env he=>by
   obtain ⟨h1,L,h2,m,h3⟩:=y₁ env he
   exact ⟨h1,L,h2,m,by simp only [compPS,List.mem_append]; exact .inr (.inr h3)⟩
  refine comp_sound (Φ:=compAct Φ b xs (compEnvC scope cl H2.objs.size Φ.env) H2.objs.size mm) (iter:=iter) (scope:=scope) (pos:=pos) (S (compAct Φ b xs (compEnvC scope cl H2.objs.size Φ.env) H2.objs.size mm) rfl) oc (s₀:=s) ?_ (s:={ s₁ with heap:=h₁,toks:=t }) ⟨m₁.gens,m₁.drawn,m₁.os⟩ (by simp) hg' y5
  intro s' tv σ' acc m' htv y' k'
  obtain ⟨hD,y''⟩:=y'.giveO oc
  obtain ⟨_,_,mc,hn,_⟩:=y''.fr.choose_spec
  have y9:=y3'.outOfComp F N hCp htv y'' (h'':=s'.heap) fun b o hb e=>e
  refine hRR _ _ s' σ' acc ⟨m'.gens,m'.drawn,m'.os⟩ (y9.addP ?_ hCp (fun δ R hb a o e hm=>?_) ?_) hD k'
  ·exact y''.old _ (compPS_mem.mpr (.inl rfl))
  ·obtain ⟨δ2,R2,hb2⟩:=y''.st
   have hfp:fp a (δ a) o=fp a (δ2 a) o:=by
    cases o with
    | inst C fs =>
     obtain ⟨g1,_⟩:=R2.rel a _ e
     obtain ⟨g3,_⟩:=R.rel a _ e
     rw [g1] at g3
     injection g3 with g3
     injection g3 with _ g3 _ _
     injection g3 with g3
     rw [g3]
    | _=>rfl
   rw [hfp] at hm
   exact (hb2 a o e _ hm).2 (compPS_mem.mpr (.inl rfl))
  ·obtain ⟨o,ho,hp⟩:=of_ns hn
   exact ⟨o,ho,mc,hp⟩
 refine codeAny_compStart_list (loop _) (self _ _ _ ?_ (loop _))
 obtain ⟨o,ho,h1⟩:=y5.ps (I,IO 0) (by simp)
 exact ⟨o,ho,h1⟩
theorem compPost_plain {R:KL} {Q:KV} {s s':Shared} {D C:Addr} {σ':Sto} {acc:List V} (out:∀ env∈Φ.outer,env.scope.kind≠.module∧∃ L,env.frame=some L∧∃ m,(L,NsP m)∈P)
  (m':Sm s s') (y:St Φ ((C,IsNs)::P) M (σ'.set D (.list acc)) s'.heap) (hD:σ' D=none) (q:∀ a,σ' a=none→Q (.ref a) (σ'.set a (.list acc))) :
  compPost (model Φ.prog Φ.w) Φ.A (PX Φ P s R) none (PE Φ P M s Q) (.ref D) C (.ok .next) s':=by
 obtain ⟨y0,hb,hp,hf,o,ho,mc,hn⟩:=y.dropP out
 exact ⟨mc,ns_of ho hn,fun h' hs=>⟨⟨m'.gens,m'.drawn,m'.os⟩,_,y0.but hb hp hf fun b o hb e=>hs.extBut b o hb e,q _ hD⟩⟩
theorem compPost_use (ok:Φ.Ok n) {R:KL} {F:KF} {s s':Shared} {D C:Addr} {σ':Sto} {acc:List V} {x:Str} {xp:Pos} (out:∀ env∈Φ.outer,env.scope.kind≠.module∧∃ L,env.frame=some L∧∃ m,(L,NsP m)∈P)
  (m':Sm s s') (y:St Φ ((C,IsNs)::P) M (σ'.set D (.list acc)) s'.heap) (hD:σ' D=none) (q:kCu Φ.vars M x F acc σ') :
  compPost (model Φ.prog Φ.w) Φ.A (PX Φ P s R) (some (assign (.Name x xp) Φ.env)) (fun _ s'=>PF Φ P s F .next s') (.ref D) C (.ok .next) s':=by
 obtain ⟨M',hs,q⟩:=q _ hD
 refine wpAny_assign_Name (y.storeName ok hs fun s₂ m₂ y₂=>?_)
 obtain ⟨y0,hb,hp,hf,o,ho,mc,hn⟩:=y₂.dropP out
 exact ⟨mc,ns_of ho hn,fun h' hs=>⟨⟨(m'.trans m₂).gens,(m'.trans m₂).drawn,(m'.trans m₂).os⟩,M',_,y0.but hb hp hf fun b o hb e=>hs.extBut b o hb e,q⟩⟩
theorem comp_iter_list (ok:Φ.Ok (n+1)) {b:Bool} {xs:List Str} {scope:Scope} {cl:List (Str×Addr)} (co:CompOk Φ b xs scope cl) {target elt iter:Expr} {ifs:List Expr} {pos:Pos} {R:KL} {K:KA}
  {RR:Value→Addr→Result→Shared→Prop} (ht:plainT target=true) {s:Shared} (y:St Φ P M σ s.heap)
  (h:SE Φ iter M σ (kCi Φ (n+1) b xs scope cl target elt ifs M K) R)
  (hRR:∀ D C s' σ' acc,Sm s s'→St Φ ((C,IsNs)::P) M (σ'.set D (.list acc)) s'.heap→σ' D=none→K acc σ'→RR (.ref D) C (.ok .next) s') :
  wpAny (model Φ.prog Φ.w) Φ.A (eval iter Φ.env) (fun x s₁=>wpAny (model Φ.prog Φ.w) Φ.A (pyIter x) (fun it s₂=>wpAny (model Φ.prog Φ.w) Φ.A (newList []) (fun acc s₃=>wpAny (model Φ.prog Φ.w) Φ.A (newFunctionEnv scope Φ.env.globals cl [] Φ.env.qual none .none (some Φ.env)) (fun cenv s₄ =>
    codeAny (model Φ.prog Φ.w) Φ.A (.compStart (.ListComp elt [⟨target,iter,ifs,0⟩] scope pos) 0 it acc { cenv with scope:=relabel scope Φ.env }) (RR acc cenv.locals) s₄) (PX Φ P s R) s₃) (PX Φ P s R) s₂) (PX Φ P s R) s₁) (PX Φ P s R) s:=by
 refine h.then (.refl s) y ?_
 rintro v σ₁ s₁ m₁ y₁ ⟨l,vs,ev,hl,hg⟩
 obtain rfl:=er_ref ev
 obtain ⟨items,hli,_⟩:=y₁.list hl
 refine wpAny_pyIter_list hli ?_
 have hI:∃ o,(s₁.heap.push { cls:=.type "list_iterator",data:=.fields #[.ref l,.int 0 0] }).get? s₁.heap.objs.size=some o∧ListIO l 0 o:=⟨_,Heap.get?_push_size _ rfl,rfl,rfl⟩
 have y2:St Φ ((s₁.heap.objs.size,ListIO l 0)::P) M σ₁ (s₁.heap.push { cls:=.type "list_iterator",data:=.fields #[.ref l,.int 0 0] }) :=
  (y₁.hid (ob:={ cls:=.type "list_iterator",data:=.fields #[.ref l,.int 0 0] }) rfl).bump y₁.out (fun _ _ _ e=>e) hI
 exact comp_core ok co (s₁:={ s₁ with heap:=s₁.heap.push { cls:=.type "list_iterator",data:=.fields #[.ref l,.int 0 0] } }) (fun Φ' e=>stepper_list (by rw [e]; exact ok.hand (Nat.succ_ne_zero _)) ht)
  (fun s' Q E qd q=>by obtain ⟨o,ho,h1,h2⟩:=qd; exact wpAny_pyIter_listiter ⟨o,ho,h1,h2⟩ q) ⟨m₁.gens,m₁.drawn,m₁.os⟩ y₁.out y2 hg hRR
theorem comp_iter_range1 (ok:Φ.Ok (n+1)) {b:Bool} {xs:List Str} {scope:Scope} {cl:List (Str×Addr)} (co:CompOk Φ b xs scope cl) {target elt e:Expr} {ifs:List Expr} {pos np rp:Pos} {R:KL} {K:KA}
  {RR:Value→Addr→Result→Shared→Prop} (ht:isNameT target=true) (hx:((Str.ofString "range"),NameKind.globalImplicit)∈Φ.env.scope.names) (hgl:Glob Φ.toCtx (Str.ofString "range") (.type "range"))
  (he:starEach [e] Φ.env=[(false,eval e Φ.env)]) {s:Shared} (y:St Φ P M σ s.heap)
  (h:SE Φ e M σ (kCn Φ (n+1) b xs scope cl target elt ifs M K) R)
  (hRR:∀ D C s' σ' acc,Sm s s'→St Φ ((C,IsNs)::P) M (σ'.set D (.list acc)) s'.heap→σ' D=none→K acc σ'→RR (.ref D) C (.ok .next) s') :
  wpAny (model Φ.prog Φ.w) Φ.A (eval (.Call (.Name (Str.ofString "range") np) [e] [] rp) Φ.env) (fun x s₁=>wpAny (model Φ.prog Φ.w) Φ.A (pyIter x) (fun it s₂=>wpAny (model Φ.prog Φ.w) Φ.A (newList []) (fun acc s₃=>wpAny (model Φ.prog Φ.w) Φ.A (newFunctionEnv scope Φ.env.globals cl [] Φ.env.qual none .none (some Φ.env)) (fun cenv s₄ =>
    codeAny (model Φ.prog Φ.w) Φ.A (.compStart (.ListComp elt [⟨target,.Call (.Name (Str.ofString "range") np) [e] [] rp,ifs,0⟩] scope pos) 0 it acc { cenv with scope:=relabel scope Φ.env }) (RR acc cenv.locals) s₄) (PX Φ P s R) s₃) (PX Φ P s R) s₂) (PX Φ P s R) s₁) (PX Φ P s R) s :=
 Call_ (glob_raw ok hx hgl y (PyProof.Rows.callWith_type1 (args_cons (h.then (.refl s) y fun v σ₁ s₁ m₁ y₁ qf=>by obtain ⟨bb,ev,b1,b2,hg⟩:=qf; exact args_nil (by
  obtain ⟨t,rfl⟩:=er_int ev
  refine call_range_1 ?_
  refine wpAny_pyIter_range (IsRange.new ..) (small_one (by decide) (by decide) b1 b2) ?_
  dsimp only
  have y₂:=y₁.keeps (h':=s₁.heap.push { cls:=.type "range",data:=.fields #[.int 0 s₁.toks,.int bb t,.int 1 (s₁.toks+1)] }) fun b o e=>Heap.get?_push_of_some _ e
  generalize hH:s₁.heap.push { cls:=.type "range",data:=.fields #[.int 0 s₁.toks,.int bb t,.int 1 (s₁.toks+1)] }=H at y₂ ⊢
  have hsz:Builtin.Range.rangeSize 0 bb 1=((bb-0).toNat:Int):=by rw [rangeSize_one]; split <;> (rename_i h; revert h; lia)
  have hI:∃ o,(H.push { cls:=.type "range_iterator",data:=.fields #[rawInt 0,rawInt (Builtin.Range.rangeSize 0 bb 1),rawInt 1] }).get? H.objs.size=some o∧RangeIO 0 (bb-0).toNat 0 o :=
   ⟨_,Heap.get?_push_size _ rfl,by unfold RangeIO; rw [hsz]; simp⟩
  have y2:St Φ ((H.objs.size,RangeIO 0 (bb-0).toNat 0)::P) M σ₁ (H.push { cls:=.type "range_iterator",data:=.fields #[rawInt 0,rawInt (Builtin.Range.rangeSize 0 bb 1),rawInt 1] }) :=
   (St.hid (s:={ s₁ with heap:=H }) y₂ (ob:={ cls:=.type "range_iterator",data:=.fields #[rawInt 0,rawInt (Builtin.Range.rangeSize 0 bb 1),rawInt 1] }) rfl).bump y₁.out (fun _ _ _ e=>e) hI
  exact comp_core ok co (s₁:={ s₁ with heap:=H.push { cls:=.type "range_iterator",data:=.fields #[rawInt 0,rawInt (Builtin.Range.rangeSize 0 bb 1),rawInt 1] },toks:=s₁.toks+1+1 }) (fun Φ' e=>stepper_range (by rw [e]; exact ok.hand (Nat.succ_ne_zero _)) ht)
   (fun s' Q E qd q=>by
    obtain ⟨o,ho,h1⟩:=qd
    unfold RangeIO at h1; subst h1; exact wpAny_pyIter_rangeiter ho q) ⟨m₁.gens,m₁.drawn,m₁.os⟩ y₁.out y2 hg hRR)) he) he))
theorem SE_comp_list (ok:Φ.Ok (n+1)) {b:Bool} {xs:List Str} {scope:Scope} {cl:List (Str×Addr)} (co:CompOk Φ b xs scope cl) {target elt iter:Expr} {ifs:List Expr} {pos:Pos} {Q:KV} {R:KL}
  (ht:plainT target=true) (hf:∀ x,foldedSetIterable iter Φ.env x=pure x)
  (h:SE Φ iter M σ (kCi Φ (n+1) b xs scope cl target elt ifs M (kCq Q)) R) :
  SE Φ (.ListComp elt [⟨target,iter,ifs,0⟩] scope pos) M σ Q R:=.mk <| .mk fun P s y=>by
 rw [eval_ListComp]
 refine wpAny_comprehension_free (g:=⟨target,iter,ifs,0⟩) (gs:=[]) rfl hf co.clos co.kind co.names ?_
 exact comp_iter_list ok co ht y h (RR:=fun acc C=>compPost (model Φ.prog Φ.w) Φ.A (PX Φ P s R) none (PE Φ P M s Q) acc C) fun D C s' σ' acc m' y' hD q=>compPost_plain y.out m' y' hD q
theorem SX_comp_list (ok:Φ.Ok (n+1)) {b:Bool} {xs:List Str} {scope:Scope} {cl:List (Str×Addr)} (co:CompOk Φ b xs scope cl) {target elt iter:Expr} {ifs:List Expr} {pos spos yp:Pos} {x:Str} {F:KF} {R:KL}
  (hsw:swapsWith (.ListComp elt [⟨target,iter,ifs,0⟩] scope pos) (some (.Name x yp)) spos.line Φ.env=pure true)
  (ht:plainT target=true) (hf:∀ x,foldedSetIterable iter Φ.env x=pure x)
  (h:SE Φ iter M σ (kCi Φ (n+1) b xs scope cl target elt ifs M (kCu Φ.vars M x F)) R) :
  SX Φ (.Assign [.Name x yp] (.ListComp elt [⟨target,iter,ifs,0⟩] scope pos) spos) M σ F R:=.mk <| .mk fun P s y=>by
 rw [exec_Assign_Name_used _ _ _ _ hsw]
 refine wpAny_bind (wpAny_standAt (wpAny_bind ?_))
 show wpAny _ _ (do let _ ← comprehension (.ListComp elt [⟨target,iter,ifs,0⟩] scope pos) scope Φ.env _ (newList []) false (eval iter Φ.env) (some (assign (.Name x yp) Φ.env))) _ _ s
 refine wpAny_bind (wpAny_mono (wpAny_comprehension_free (E:=PX Φ P s R) (use:=some (assign (.Name x yp) Φ.env)) (Q:=fun _ s'=>PF Φ P s F .next s') (g:=⟨target,iter,ifs,0⟩) (gs:=[]) rfl hf co.clos co.kind co.names
  (comp_iter_list ok co ht y h (RR:=fun acc C=>compPost (model Φ.prog Φ.w) Φ.A (PX Φ P s R) (some (assign (.Name x yp) Φ.env)) (fun _ s'=>PF Φ P s F .next s') acc C) fun D C s' σ' acc m' y' hD q=>compPost_use ok y.out m' y' hD q)) (fun _ s' hq=>wpAny_pure (wpAny_pure hq)) fun _ _ e=>e)
theorem SX_comp_range1 (ok:Φ.Ok (n+1)) {b:Bool} {xs:List Str} {scope:Scope} {cl:List (Str×Addr)} (co:CompOk Φ b xs scope cl) {target elt e:Expr} {ifs:List Expr} {pos np rp spos yp:Pos} {x:Str} {F:KF} {R:KL}
  (hsw:swapsWith (.ListComp elt [⟨target,.Call (.Name (Str.ofString "range") np) [e] [] rp,ifs,0⟩] scope pos) (some (.Name x yp)) spos.line Φ.env=pure true)
  (ht:isNameT target=true) (hx:((Str.ofString "range"),NameKind.globalImplicit)∈Φ.env.scope.names) (hgl:Glob Φ.toCtx (Str.ofString "range") (.type "range"))
  (he:starEach [e] Φ.env=[(false,eval e Φ.env)])
  (hf:∀ x,foldedSetIterable (.Call (.Name (Str.ofString "range") np) [e] [] rp) Φ.env x=pure x)
  (h:SE Φ e M σ (kCn Φ (n+1) b xs scope cl target elt ifs M (kCu Φ.vars M x F)) R) :
  SX Φ (.Assign [.Name x yp] (.ListComp elt [⟨target,.Call (.Name (Str.ofString "range") np) [e] [] rp,ifs,0⟩] scope pos) spos) M σ F R:=.mk <| .mk fun P s y=>by
 rw [exec_Assign_Name_used _ _ _ _ hsw]
 refine wpAny_bind (wpAny_standAt (wpAny_bind ?_))
 show wpAny _ _ (do let _ ← comprehension (.ListComp elt [⟨target,.Call (.Name (Str.ofString "range") np) [e] [] rp,ifs,0⟩] scope pos) scope Φ.env _ (newList []) false (eval (.Call (.Name (Str.ofString "range") np) [e] [] rp) Φ.env) (some (assign (.Name x yp) Φ.env))) _ _ s
 refine wpAny_bind (wpAny_mono (wpAny_comprehension_free (E:=PX Φ P s R) (use:=some (assign (.Name x yp) Φ.env)) (Q:=fun _ s'=>PF Φ P s F .next s') (g:=⟨target,_,ifs,0⟩) (gs:=[]) rfl hf co.clos co.kind co.names
  (comp_iter_range1 ok co ht hx hgl he y h (RR:=fun acc C=>compPost (model Φ.prog Φ.w) Φ.A (PX Φ P s R) (some (assign (.Name x yp) Φ.env)) (fun _ s'=>PF Φ P s F .next s') acc C) fun D C s' σ' acc m' y' hD q=>compPost_use ok y.out m' y' hD q)) (fun _ s' hq=>wpAny_pure (wpAny_pure hq)) fun _ _ e=>e)
end
section
variable {c:Ctx} {n:Nat} {σ:Sto} {Q:KV}
structure FnOkC (c:Ctx) (f:Addr) (xs rest cs:List Str) (scope:Scope) (body:List Stmt) (cdv:Value) (qual:Str):Prop where
 at_:FnAt c.K f xs scope body cdv qual
 code:codeIn c.K cdv qual=true
 names:(scope.names.map (·.1)).Nodup
 locals:∀ x∈xs++rest,(x,NameKind.local)∈scope.names
 cels:∀ x∈cs,(x,NameKind.cell)∈scope.names
 nodup:((xs++rest)++cs).Nodup
 dbg:∀ v∈scope.names,(v.1 == ("__debug__" : Str))=false
 cel:∀ L,∀ x∈cs,((cellsFrom (L+1) scope.names []).lookup x).isSome=true
 co:scope.isCoroutine=false
 gen:scope.isGenerator=false
 kind:scope.kind=.function
noncomputable def varsC (xs rest cs:List Str) (scope:Scope) (L:Addr):Vars:=((xs++rest).map fun x=>(x,none))++cs.map fun x=>(x,(cellsFrom (L+1) scope.names []).lookup x)
structure InFnC (c:Ctx) (n:Nat) (f:Addr) (xs rest cs:List Str) (scope:Scope) (cdv:Value) (qual:Str) (Φ:Act):Prop where
 ok:Φ.Ok n
 ctx:Φ.toCtx=c
 env:∃ L,Φ.env=envOfC qual scope L f cdv∧Φ.vars=varsC xs rest cs scope L
 comp:Φ.comp=none
theorem NRel_cells {h:Heap} {m:Str→Option Value} {look:Str→Option Addr} {cs:List Str} (k:∀ x∈cs,∃ a,look x=some a∧∃ o,h.get? a=some o∧CellP none o):NRel m h (cs.map fun x=>(x,look x)) (cs.map fun _=>none):=by
 induction cs with
 | nil=>exact .nil
 | cons x cs ih =>
  obtain ⟨a,ea,ha⟩:=k x (.head _)
  rw [List.map_cons,List.map_cons,ea]
  exact .cons ha (ih fun y hy=>k y (.tail _ hy))
theorem bindC_none {kindOf:Str→Option NameKind} {binds:List (Str×Value)} {m:Str→Option Value} (h:∀ z∈binds,kindOf z.1=some .local):bindC kindOf binds m=m:=by
 induction binds with
 | nil=>rfl
 | cons z r ih =>
  unfold bindC
  rw [if_pos (h z (.head _))]
  exact ih fun z hz=>h z (.tail _ hz)
theorem bindL_is {kindOf:Str→Option NameKind} {binds:List (Str×Value)} {m:Str→Option Value} (h:∀ z∈binds,kindOf z.1=some .local) (x:Str):bindL kindOf binds m x=match binds.reverse.lookup x with | some v=>some v | none=>m x:=by
 induction binds generalizing m with
 | nil=>rfl
 | cons z r ih =>
  obtain ⟨y,v⟩:=z
  unfold bindL
  rw [if_pos (h (y,v) (.head _)),ih fun z hz=>h z (.tail _ hz),List.reverse_cons,List.lookup_append]
  cases hr:r.reverse.lookup x with
  | some w=>simp
  | none =>
   by_cases e:x=y
   ·subst e; simp [List.lookup_cons]
   ·have:(x == y)=false:=by simpa using e
    simp [List.lookup_cons,this,e]
theorem Call.enterC {f:Addr} {xs rest cs:List Str} {scope:Scope} {body:List Stmt} {cdv:Value} {qual:Str} {Vs:List V} {R:Sto→Prop} (fo:FnOkC c f xs rest cs scope body cdv qual) (hlen:Vs.length=xs.length)
  (hb:∀ Φ,InFnC c n f xs rest cs scope cdv qual Φ→SS Φ body ((Vs.map some++rest.map fun _=>none)++cs.map fun _=>none) σ
   (kFn Q) NoR):Call c (n+1) (.ref f) Vs σ Q R:=by
 refine .mk fun Φ hc ok P M vals s hv y=>?_
 subst hc
 obtain ⟨m,F,N⟩:=y.fr
 obtain ⟨name,params,dV,kV,doc,pm,an,ct,oc,od,osl,ho,hbind⟩:=fo.at_
 have hvl:vals.length=xs.length:=by rw [← hlen,← hv,List.length_map]
 have X:=ok.ctx.X.keeps F.keep
 have hroom:Φ.A.depth < recursionLimit:=by have:=ok.depth; show _ < 1000; (revert this; lia)
 have hin:∀ z∈xs.zip vals,scope.names.lookup z.1=some .local:=fun z hz=>by
  have:z.1∈xs:=(List.of_mem_zip hz).1
  exact lookup_of_mem fo.names (fo.locals z.1 (List.mem_append.mpr (.inl this)))
 refine codeAny_call_cells (fd:=fnOf name qual params body scope dV kV doc pm an cdv ct) (body:=body) (binds:=xs.zip vals) hroom (X _ _ ho) rfl (ok.ctx.T.nolimit.keeps F.keep) (codeRec_of X fo.code) rfl
  (hbind vals hvl) rfl (fun z hz=>.inl (hin z hz)) (fun s₁ hC=>?_) fo.co fo.gen fo.kind
 have hkl:∀ z∈xs.zip vals,(callEnvC (fnOf name qual params body scope dV kV doc pm an cdv ct) s.heap.objs.size f).kindOf z.1=some .local:=hin
 have hLn:s.heap.get? s.heap.objs.size=none:=none_size (Nat.le_refl _)
 have hbn:∀ b,s.heap.get? b=none→Φ.base.get? b=none:=fun b e=>by
  cases q:Φ.base.get? b with
  | none=>rfl
  | some o=>rw [F.keep _ _ q] at e; cases e
 have hpn:∀ b,s.heap.get? b=none→b∉prot Φ P:=fun b e hm=>by
  obtain ⟨o,ho⟩:=y.has _ hm
  rw [e] at ho; cases ho
 let L:=s.heap.objs.size
 let env':Env:=PyProof.Rows.envOfC qual scope L f cdv
 let Φ':=callee Φ env' L (varsC xs rest cs scope L)
 let look:Str→Option Addr:=fun x=>(cellsFrom (L+1) scope.names []).lookup x
 have hcell:∀ x∈cs,∃ a,look x=some a∧L < a∧∃ o,s₁.heap.get? a=some o∧CellP none o:=fun x hx=>by
  obtain ⟨a,ha⟩:=Option.isSome_iff_exists.mp (fo.cel L x hx)
  refine ⟨a,ha,hC.above x a (mem_of_lookup ha),?_⟩
  have:=hC.cell x a ha
  rw [bindC_none hkl] at this
  obtain ⟨o,ho,hd⟩:=this
  exact ⟨o,ho,none,by first | exact hd | exact hd.2 | exact hd.1,rfl⟩
 have hcells:Φ'.cells=cs.filterMap look:=by
  show (varsC xs rest cs scope L).filterMap (·.2)=_
  unfold varsC
  rw [List.filterMap_append,List.filterMap_map,List.filterMap_map]
  rw [show (List.filterMap ((fun x:Str×Option Addr=>x.2) ∘ fun x:Str=>((x,none):Str×Option Addr)) (xs++rest))=[] from List.filterMap_eq_nil_iff.mpr fun _ _=>rfl]
  rfl
 have hprot:prot Φ' (belowPS Φ P m s.heap)=L::(cs.filterMap look++prot Φ P):=by
  unfold prot
  rw [hcells,belowPS_keys]
  rfl
 have hcnew:∀ a∈cs.filterMap look,L < a∧s.heap.get? a=none:=fun a ha=>by
  obtain ⟨x,hx,e⟩:=List.mem_filterMap.mp ha
  obtain ⟨a',e',hlt,_⟩:=hcell x hx
  rw [e] at e'; cases e'
  refine ⟨hlt,none_size (s:=s) (Nat.le_of_lt hlt)⟩
 have ok':Φ'.Ok n:=by
  refine ⟨ok.ctx,fun _=>ok.hand (Nat.succ_ne_zero _),?_,rfl,fo.kind,?_,?_,?_,fo.kind,rfl,rfl,rfl,fo.names,fun v hv=>?_,?_,fo.dbg,fun _=>rfl⟩
  ·show (Φ.A.deeper env').frames=_
   show Φ.A.frames.map (env'::·)=_
   rw [ok.frames]; rfl
  ·show Φ.A.depth+1+8*n≤800
   have:=ok.depth; (revert this; lia)
  ·show Φ.A.units+3+64*n≤9000
   have:=ok.units; (revert this; lia)
  ·intro q; cases q
  ·have hv':v∈varsC xs rest cs scope L:=hv
   unfold varsC at hv'
   rcases List.mem_append.mp hv' with h1 | h1
   ·obtain ⟨x,hx,rfl⟩:=List.mem_map.mp h1
    exact fo.locals x hx
   ·obtain ⟨x,hx,rfl⟩:=List.mem_map.mp h1
    obtain ⟨a,ea,_⟩:=hcell x hx
    have ea':(cellsFrom (L+1) scope.names []).lookup x=some a:=ea
    simp only [ea']
    exact ⟨fo.cels x hx,ea'⟩
  ·show ((varsC xs rest cs scope L).map (·.1)).Nodup
   unfold varsC
   rw [List.map_append,List.map_map,List.map_map]
   rw [show ((fun x:Str×Option Addr=>x.1) ∘ fun x:Str=>((x,none):Str×Option Addr))=id from rfl,show ((fun x:Str×Option Addr=>x.1) ∘ fun x:Str=>(x,(cellsFrom (L+1) scope.names []).lookup x))=id from rfl,List.map_id,List.map_id]
   exact fo.nodup
 have nd2:=List.nodup_append.mp fo.nodup
 have ndx:xs.Nodup:=(List.nodup_append.mp nd2.1).1
 have k₁:=hC.toInCall.keep
 have ndc:(cs.filterMap look).Nodup:=by
  rw [List.Nodup,List.pairwise_filterMap]
  refine List.Pairwise.imp ?_ nd2.2.1
  intro x z hxz a ha b hb e
  subst e
  exact hxz (name_of_addr hC.apart (mem_of_lookup ha) (mem_of_lookup hb))
 have y':St Φ' (belowPS Φ P m s.heap) ((Vs.map some++rest.map fun _=>none)++cs.map fun _=>none) σ s₁.heap:=by
  obtain ⟨_,ps,⟨δ,Rr,hbb⟩,nd,old,out⟩:=id y
  refine ⟨⟨_,⟨hC.toInCall.ns,fun b o e=>k₁ b o (F.keep b o e),?_⟩,?_⟩,fun p hp=>?_,⟨δ,⟨fun a o e=>(Rr.rel a o e).same fun b hb'=>?_,Rr.sep,Rr.two⟩,fun a o e b hb'=>⟨(hbb a o e b hb').1,?_⟩⟩,?_,?_,fun env he=>?_⟩
  ·exact Nat.le_trans F.above (Nat.le_of_lt (by have:=F.ns.lt; exact this))
  ·show NRel _ s₁.heap (varsC xs rest cs scope L) _
   unfold varsC
   refine NRel.app (NRel_cells (look:=look) fun x hx=>?_) ?_
   ·obtain ⟨a,h1,_,h2⟩:=hcell x hx; exact ⟨a,h1,h2⟩
   rw [← hv]
   have hm:∀ x,bindL (callEnvC (fnOf name qual params body scope dV kV doc pm an cdv ct) s.heap.objs.size f).kindOf (xs.zip vals) (fun _=>none) x=(xs.zip vals).reverse.lookup x:=fun x=>by
    rw [bindL_is hkl]; cases (xs.zip vals).reverse.lookup x <;> rfl
   refine NRel_args hvl.symm (fun p hp=>by rw [hm]; exact lookup_zip ndx hvl.symm p hp) fun x hx=>by
    rw [hm]
    refine lookup_none fun q=>?_
    rw [List.map_reverse,List.mem_reverse,List.map_fst_zip (by (revert hvl; lia))] at q
    exact (List.nodup_append.mp nd2.1).2.2 x q x hx rfl
  ·simp only [belowPS,List.mem_cons,List.mem_append,List.mem_map] at hp
   rcases hp with rfl | ⟨C,hC',rfl⟩ | ⟨b,hb',rfl⟩ | hp
   ·obtain ⟨o,ho,hp⟩:=of_ns F.ns
    exact ⟨o,k₁ _ _ ho,hp⟩
   ·obtain ⟨o,ho⟩:=y.has C (by simp only [prot,List.mem_cons,List.mem_append]; exact .inr (.inl hC'))
    exact ⟨o,k₁ _ _ ho,ho⟩
   ·obtain ⟨o,ho⟩:=y.has b (by simp only [prot,List.mem_cons,List.mem_append]; exact .inr (.inr (.inl hb')))
    exact ⟨o,k₁ _ _ ho,ho⟩
   ·obtain ⟨o,ho,r⟩:=ps p hp
    exact ⟨o,k₁ _ _ ho,r⟩
  ·obtain ⟨ob,hob⟩:=(Rr.rel a o e).some b hb'
   rw [hob]; exact k₁ b ob hob
  ·rw [hprot]
   intro q
   obtain ⟨ob,hob⟩:=(Rr.rel a o e).some b hb'
   rcases List.mem_cons.mp q with e2 | q
   ·rw [e2] at hob
    rw [show s.heap.get? L=none from hLn] at hob; cases hob
   ·rcases List.mem_append.mp q with q | q
    ·rw [(hcnew b q).2] at hob; cases hob
    ·exact (hbb a o e b hb').2 q
  ·rw [hprot]
   refine List.nodup_cons.mpr ⟨fun q=>?_,List.nodup_append.mpr ⟨ndc,nd,fun a ha b hb q=>?_⟩⟩
   ·rcases List.mem_append.mp q with q | q
    ·exact absurd (hcnew _ q).1 (Nat.lt_irrefl _)
    ·exact hpn _ hLn q
   ·subst q; exact hpn _ (hcnew _ ha).2 hb
  ·rw [hprot]
   intro b hb'
   rcases List.mem_cons.mp hb' with rfl | hb'
   ·exact hbn _ hLn
   ·rcases List.mem_append.mp hb' with q | q
    ·exact hbn _ (hcnew _ q).2
    ·exact old b q
  ·rcases List.mem_cons.mp he with rfl | he
   ·exact ⟨by rw [ok.fk]; decide,Φ.L,ok.ff,m,.head _⟩
   ·obtain ⟨hk,L,hf,mm,hm⟩:=out env he
    exact ⟨hk,L,hf,mm,List.mem_cons_of_mem _ (List.mem_append.mpr (.inr (List.mem_append.mpr (.inr hm))))⟩
 have inF:InFnC Φ.toCtx n f xs rest cs scope cdv qual Φ':=⟨ok',rfl,⟨_,rfl,rfl⟩,rfl⟩
 have run:=(hb Φ' inF).1.1 (belowPS Φ P m s.heap) s₁ y'
 obtain ⟨h1,tk,hs1,_⟩:=hC.done
 refine wpAny_mono run (fun fl s₂ hr=>?_) fun e s₁ hr=>hr.no.elim
 obtain ⟨sm,M₁,σ₁,y₁,q⟩:=hr
 have sm':Sm s s₂:=by rw [hs1] at sm; exact ⟨sm.gens,sm.drawn,sm.os⟩
 cases fl with
 | next=>exact ⟨sm',σ₁,St.back (Φ':=Φ') rfl y F N y₁,q⟩
 | ret v=>exact ⟨sm',σ₁,St.back (Φ':=Φ') rfl y F N y₁,q⟩
 | cont=>exact q.elim
 | brk=>exact q.elim
end
section
variable {Φ:Act} {n:Nat} {P:PS} {M M':Loc} {σ:Sto} {Q:KV} {R:KL} {pos:Pos} {k:Nat} {F:KF}
theorem St.newD {s:Shared} (y:St Φ P M σ s.heap):∃ m,Fr Φ.base Φ.L s.heap m∧News Φ.base Φ.L s.heap (allNews Φ.base Φ.L s.heap) ∧
  ∀ (D:Addr) (h':Heap) (items:List Value) (c:Nat) (news':List (Addr×Obj)),Fr Φ.base Φ.L h' m→News Φ.base Φ.L h' news'→(∀ p∈allNews Φ.base Φ.L s.heap,p∈news')→(D,listOf items.toArray c)∈news' →
   (∀ q∈allNews Φ.base Φ.L s.heap,q.1 < D)→σ D=none∧St Φ P M (σ.set D (.list (items.map er))) h':=by
 obtain ⟨m,F,N⟩:=y.fr
 refine ⟨m,F,allNews_news,fun D h' items c news' F' N' hsub hm hlt=>?_⟩
 have hD:=N' _ hm
 have hn:s.heap.get? D=none:=by
  cases q:s.heap.get? D with
  | none=>rfl
  | some o=>exact absurd (hlt _ (allNews_mem.mpr ⟨q,hD.2.1,hD.2.2⟩)) (Nat.lt_irrefl _)
 exact y.push F N (kept_of_news F' N' hsub F) (a:=D) (dx:=0) (o:=.list (items.map er)) ⟨items,c,hD.1,rfl⟩ (fun b hb=>by simp [fp] at hb; subst hb; exact hn) (fun C fs q=>by cases q)
theorem c_list_list {a:Addr} {vs:List V} (e:σ a=some (.list vs)) (hl:vs.length≤1000000) (q:∀ D,σ D=none→Q (.ref D) (σ.set D (.list vs))):∀ vals,vals.map er=[.ref a]→SV Φ (call (.type "list") vals) M σ Q R:=by
 intro vals hv
 refine .mk fun P s y=>?_
 obtain ⟨v,rfl,ev⟩:=map_er1 hv
 have:=er_ref ev; subst this
 obtain ⟨items,hi,hm⟩:=y.list e
 obtain ⟨m,F,N,fin⟩:=y.newD
 subst hm
 simp only [List.length_map] at hl
 refine list_copyK F N hi (fun D c h' F' N' hlt=>?_) (by rw [sizeLine_eq]; simp; (revert hl; lia))
 obtain ⟨h1,h2⟩:=fin D h' items c _ F' N' (fun p hp=>.tail _ hp) (.head _) hlt
 exact ⟨⟨rfl,rfl,rfl⟩,_,h2,q D h1⟩
theorem c_tuple_list {a:Addr} {vs:List V} (e:σ a=some (.list vs)) (hl:vs.length≤1000000) (q:∀ D,σ D=none→Q (.ref D) (σ.set D (.tuple vs))):∀ vals,vals.map er=[.ref a]→SV Φ (call (.type "tuple") vals) M σ Q R:=by
 intro vals hv
 refine .mk fun P s y=>?_
 obtain ⟨v,rfl,ev⟩:=map_er1 hv
 have:=er_ref ev; subst this
 obtain ⟨items,hi,hm⟩:=y.list e
 subst hm
 simp only [List.length_map] at hl
 refine call_tuple_list hi (fun h' hk=>?_) (by rw [sizeLine_eq]; simp; (revert hl; lia))
 have y1:=y.keeps hk
 have z:=St.pushObj (s:={ s with heap:=h' }) y1 (ob:={ cls:=.type "tuple",data:=.seq items.toArray }) (o:=.tuple (items.map er)) rfl (fun h'' e=>⟨items,⟨_,e,rfl,0,rfl⟩,rfl⟩) (by intro C fs q; cases q)
 exact ⟨⟨rfl,rfl,rfl⟩,_,z.2,q _ z.1⟩
theorem b_min2 (hh:Φ.A.handled=none) {a b:Int} (q:Q (.int (if b < a then b else a)) σ):∀ vals,vals.map er=[.int a,.int b]→SV Φ (call (.builtin "min") vals) M σ Q R:=by
 intro vals hv
 refine .mk fun P s y=>?_
 obtain ⟨v,w,rfl,ev,ew⟩:=map_er2 hv
 obtain ⟨t,rfl⟩:=er_int ev
 obtain ⟨u,rfl⟩:=er_int ew
 refine min_two_ints hh fun h' tk hk=>⟨⟨rfl,rfl,rfl⟩,σ,y.keeps hk,?_⟩
 by_cases hc:b < a
 ·rw [if_pos hc] at q ⊢; exact q
 ·rw [if_neg hc] at q ⊢; exact q
theorem preSum_getD (ns:List Int) (j:Nat) (h:j≤ns.length):preSum (fun i=>ns.getD i 0) j=(ns.take j).sum:=by
 induction j with
 | zero=>rfl
 | succ j ih =>
  have ih:=ih (Nat.le_of_succ_le h)
  show preSum (fun i=>ns.getD i 0) j+ns.getD j 0=_
  have hj:j < ns.length:=h
  have e2:ns.getD j 0=ns[j]:=by simp [List.getD_eq_getElem?_getD,hj]
  rw [ih,List.take_add_one,List.getElem?_eq_getElem hj,Option.toList_some,List.sum_append,e2,List.sum_singleton]
theorem b_sum (hh:Φ.A.handled=none) {a:Addr} {ns:List Int} (e:σ a=some (.list (ns.map V.int))) (q:Q (.int ns.sum) σ):∀ vals,vals.map er=[.ref a]→SV Φ (call (.builtin "sum") vals) M σ Q R:=by
 intro vals hv
 refine .mk fun P s y=>?_
 obtain ⟨v,rfl,ev⟩:=map_er1 hv
 have:=er_ref ev; subst this
 obtain ⟨items,hi,hm⟩:=y.list e
 have hI:=ints_of_map hm
 have hlt:a < s.heap.objs.size:=by obtain ⟨o,ho,_⟩:=hi; exact Heap.lt_size ho
 refine call_sum_walkG (wpAny_pyIter_list hi ⟨s.heap.objs.size,[s.heap.objs.size,a],[s.heap.objs.size],items.toArray.size,_,_,fun i=>ns.getD i 0,rfl,Walks.list (A:=Φ.A.in1) hh s.heap.objs.size a (Nat.ne_of_lt hlt) items.toArray,⟨⟨_,Heap.get?_push_size _ rfl,rfl,rfl⟩,hi.push _⟩,?_,?_,?_⟩)
 ·intro b hb
  have hs:(s.heap.push { cls:=.type "list_iterator",data:=.fields #[.ref a,.int 0 0] }).objs.size=s.heap.objs.size+1:=Heap.size_push _ _
  simp at hb
  show b < (s.heap.push { cls:=.type "list_iterator",data:=.fields #[.ref a,.int 0 0] }).objs.size
  rw [hs]
  rcases hb with hb | hb
  ·rw [hb]; exact Nat.lt_succ_self _
  ·rw [hb]; exact Nat.lt_succ_of_lt hlt
 ·intro i v hv
  have hv':items[i]?=some v:=by simpa using hv
  have:(items.map er)[i]?=some (er v):=by rw [List.getElem?_map,hv']; rfl
  rw [hm,List.getElem?_map,Option.map_eq_some_iff] at this
  obtain ⟨z,hz,ez⟩:=this
  obtain ⟨t,et⟩:=er_int ez.symm
  exact ⟨t,by rw [et]; show Value.int z t=Value.int (ns.getD i 0) t; rw [List.getD_eq_getElem?_getD,hz]; rfl⟩
 ·intro h' tk t' hk
  refine ⟨⟨rfl,rfl,rfl⟩,σ,?_,?_⟩
  ·refine y.keeps fun b o e=>hk b o (by simp; exact Nat.ne_of_lt (Heap.lt_size e)) (Heap.get?_push_of_some _ e)
  ·have hz:items.toArray.size=ns.length:=by rw [List.size_toArray,hI.length]
   show Q (.int _) σ
   rw [hz,preSum_getD ns _ (Nat.le_refl _),List.take_length]
   exact q
theorem map_of_ints {items:List Value} {ns:List Int} (h:IntsAre items ns):items.map er=ns.map V.int:=by
 induction h with
 | nil=>rfl
 | cons n t h ih=>exact congrArg (_::·) ih
theorem b_sorted_ints {a:Addr} {ns:List Int} (e:σ a=some (.list (ns.map V.int))) (h64:ns.length < 64) (q:∀ (D:Addr) (ms:List Int),σ D=none→ms.Perm ns→ms.Pairwise (·≤·)→Q (.ref D) (σ.set D (.list (ms.map V.int)))) :
  ∀ vals,vals.map er=[.ref a]→SV Φ (call (.builtin "sorted") vals) M σ Q R:=by
 intro vals hv
 refine .mk fun P s y=>?_
 obtain ⟨v,rfl,ev⟩:=map_er1 hv
 have:=er_ref ev; subst this
 obtain ⟨items,hi,hm⟩:=y.list e
 have hI:=ints_of_map hm
 obtain ⟨m,F,N,fin⟩:=y.newD
 refine kso_sorted F N hi hI h64 fun D vs' ns' c h' F' N' hlt hI' _ hp hs _=>?_
 obtain ⟨h1,h2⟩:=fin D h' vs' c _ F' N' (fun p hp=>.tail _ hp) (.head _) hlt
 rw [map_of_ints hI'] at h2
 exact ⟨⟨rfl,rfl,rfl⟩,_,h2,q D ns' h1 hp hs⟩
theorem b_sorted_dict (hh:Φ.A.handled=none) {a:Addr} {kvs:List (Int×V)} (e:σ a=some (.dict kvs)) (h64:kvs.length < 64) (q:∀ (D:Addr) (ms:List Int),σ D=none→ms.Perm (kvs.map (·.1))→ms.Pairwise (·≤·)→Q (.ref D) (σ.set D (.list (ms.map V.int)))) :
  ∀ vals,vals.map er=[.ref a]→SV Φ (call (.builtin "sorted") vals) M σ Q R:=by
 intro vals hv
 refine .mk fun P s y=>?_
 obtain ⟨v,rfl,ev⟩:=map_er1 hv
 have:=er_ref ev; subst this
 obtain ⟨kws,hd,hk,lo⟩:=y.dict e
 obtain ⟨ep,hat⟩:=hd.dictAt
 obtain ⟨m,F,N,fin⟩:=y.newD
 have hlen:kws.length=kvs.length:=by rw [← hk,List.length_map]
 refine kdu_sorted (kdl_dict (knd:=intKind Φ.prog Φ.w) (kvs:=kws) (ep:=ep) lo) hh F N hat (by rw [sizeLine_eq]; (revert h64 hlen; lia)) fun D h' tk vs F' N' l1 hl hv=>?_
 have hall:∀ j w,vs[j]?=some w→∃ t,w=Value.int ((kws.map (·.1)).getD j 0) t:=by
  intro j w hw
  obtain ⟨kk,x,hx,hkk⟩:=hv j w hw
  have:∃ t,w=Value.int kk t:=by
   have hkk':Value.isInt kk w=true:=hkk
   cases w <;> first | (simp [Value.isInt] at hkk'; done) | (simp [Value.isInt] at hkk'; exact ⟨_,by rw [hkk']⟩)
  obtain ⟨t,rfl⟩:=this
  exact ⟨t,by simp [List.getD_eq_getElem?_getD,List.getElem?_map,hx]⟩
 have hI:IntsAre vs (kws.map (·.1)):=by
  refine ints_of_map (List.ext_getElem? fun j=>?_)
  rw [List.getElem?_map,List.getElem?_map]
  cases hj:vs[j]? with
  | none =>
   have:(kws.map (·.1))[j]?=none:=by
    rw [List.getElem?_eq_none_iff] at hj ⊢; rw [List.length_map]; (revert hl hj; lia)
   rw [this]; rfl
  | some w =>
   obtain ⟨t,rfl⟩:=hall j w hj
   have hjl:j < vs.length:=(List.getElem?_eq_some_iff.mp hj).1
   have:(kws.map (·.1))[j]?=some ((kws.map (·.1)).getD j 0):=by
    rw [List.getD_eq_getElem?_getD,List.getElem?_eq_getElem (by rw [List.length_map]; (revert hl hjl; lia))]; rfl
   rw [this]; rfl
 have ho:h'.get? D=some (seqObj "list" vs.toArray 0):=(N' (D,listOf vs.toArray 0) (.head _)).1
 refine wpAny_call_entry PyProof.Rows.slot_list_sort ⟨_,ho,rfl⟩ PyProof.Rows.entry_list_sort (list_sort_tree (n:=0) (vs:=vs) ho hI (by (revert h64 hlen hl; lia)) fun out ns' hI' hp hP=>⟨.none,rfl,?_⟩) (PyProof.Rows.args_list_sort _)
 obtain ⟨h1,h2⟩:=fin D h' vs 0 _ F' N' (fun p hp=>.tail _ hp) (.head _) l1
 have z:=St.giveO (acc:=ns'.map V.int) (D:=D) (h:=sortedHeap h' D vs out) (Φ:=Φ) (P:=P) (M:=M) (σ:=σ) (by
  have z1:=h2.takeO h1
  refine z1.bump y.out (fun b o hb e=>?_) ?_
  ·rw [sortedHeap_old hb (Heap.lt_size e)]; exact e
  ·obtain ⟨c,hc⟩:=sortedHeap_at (vs:=vs) (out:=out) ho
   exact ⟨_,hc,out.toList,c,by rw [Array.toArray_toList],map_of_ints hI'⟩) y.out
 have hkk:kws.map (·.1)=kvs.map (·.1):=by rw [← hk,List.map_map]; rfl
 exact ⟨⟨rfl,rfl,rfl⟩,_,z.2,q D ns' h1 (hkk▸hp) hP⟩
class inductive SetNs:Vars→Loc→List (Str×V)→Loc→Prop
 | nil {vs M}:SetNs vs M [] M
 | cons {vs M x v M' r M''}:SetV vs M x v M'→SetNs vs M' r M''→SetNs vs M ((x,v)::r) M''
theorem names_go (ok:Φ.Ok n) {xs:List Str} {us:List Value} {M M':Loc} {s:Shared} {K:Shared→Prop} {E:Value→Shared→Prop} (hl:xs.length=us.length) (hs:SetNs Φ.vars M (xs.zip (us.map er)) M') (y:St Φ P M σ s.heap)
  (q:∀ s',Sm s s'→St Φ P M' σ s'.heap→K s'):wpAny (model Φ.prog Φ.w) Φ.A (assignInOrder (xs.map fun n=>bindName Φ.env n) us) (fun _=>K) E s:=by
 induction xs generalizing us M s with
 | nil =>
  cases us with
  | nil=>cases hs; exact PyProof.Rows.assignInOrder_nil (q s (.refl s) y)
  | cons=>cases hl
 | cons x xs ih =>
  cases us with
  | nil=>cases hl
  | cons u us =>
   rw [List.map_cons,List.zip_cons_cons] at hs
   cases hs with
   | cons h1 h2=>exact PyProof.Rows.assignInOrder_cons (PyProof.Rows.bindName_ (y.storeName ok h1 fun s₁ m₁ y₁=>ih (Nat.succ.inj hl) h2 y₁ fun s' m y'=>q s' (m₁.trans m) y'))
inductive kUs (vs:Vars) (M:Loc) (names:List Str) (F:KF) (v:V) (σ:Sto):Prop
 | mk (a:Addr) (Vs:List V) (M':Loc) (h:v=.ref a) (e:σ a=some (.tuple Vs)) (l:Vs.length=names.length) (s:SetNs vs M (names.reverse.zip Vs.reverse) M') (q:F .next M' σ)
theorem SX_unpack_sw (ok:Φ.Ok (n+1)) {es:List Expr} {kk:Nat} {p:Pos} {e:Expr} {names:List Str} (hs:swapsWithSole [.Tuple es kk p] e pos.line Φ.env=pure false) (hw:swappedStores [.Tuple es kk p] e Φ.env=pure (some names))
  (h:SE Φ e M σ (kUs Φ.vars M names F) R):SX Φ (.Assign [.Tuple es kk p] e pos) M σ F R:=.mk <| .mk fun P s y =>
 PyProof.Rows.Assign_Tuple_swapped (h.then (.refl s) y fun v σ₁ s₁ m₁ y₁ qf=>by
  obtain ⟨a,Vs,M',ev,e1,hlen,hset,q⟩:=qf
  obtain rfl:=er_ref ev
  obtain ⟨items,ht,hi⟩:=y₁.tuple e1
  have hil:items.length=Vs.length:=by rw [← hi,List.length_map]
  have hsz:names.length=items.toArray.size:=by rw [List.size_toArray]; (revert hlen hil; lia)
  rw [hsz]
  refine PyProof.Rows.unpackItems_tuple (ok.hand (Nat.succ_ne_zero _)) ht fun h' he=>?_
  have hn:s₁.heap.get? s₁.heap.objs.size=none:=none_size (Nat.le_refl _)
  have y₂:St Φ P M σ₁ h':=y₁.keeps fun b o e=>he b o (fun q=>by rw [q,hn] at e; cases e) e
  refine names_go ok (M':=M') (s:={ s₁ with heap:=h' }) (by simp; (revert hsz; lia)) (by
   have:(items.toArray.toList.reverse).map er=Vs.reverse:=by rw [List.map_reverse]; simp [hi]
   rw [this]; exact hset) y₂ fun s' m' y'=>⟨m₁.trans ⟨m'.gens,m'.drawn,m'.os⟩,M',σ₁,y',q⟩) hs hw
end
noncomputable def p0:Params:=by constructor <;> exact default
noncomputable def fdOf (f:Addr):FuncData:=match (hd.heap_39 p0).lookup f with | some ⟨_,_,.func fd,_⟩=>fd | _=>default
noncomputable def bodyOf (f:Addr):List Stmt:=match (fdOf f).body with | .stmts b=>b | _=>[]
noncomputable def scopeOf (f:Addr):Scope:=(fdOf f).scope
noncomputable def codeOf (f:Addr):Value:=(fdOf f).code
noncomputable def qualOf (f:Addr):Str:=(fdOf f).qualname
structure Cx (c:Ctx):Prop where
 K:c.K=hd.heap_39 c.w.params
 exc:c.exc=56
 ok:c.Ok
open Str (ofString)
noncomputable def gvT:List (Str×Int):=[(ofString "TAG_LENGTH",8),(ofString "CHECK_CRC",1)]
noncomputable def gbT:List (Str×Value):=[(ofString "len",.builtin "len"),(ofString "sorted",.builtin "sorted"),(ofString "sum",.builtin "sum"),(ofString "min",.builtin "min"),(ofString "bytes",.type "bytes"),(ofString "list",.type "list"),(ofString "tuple",.type "tuple"),(ofString "range",.type "range")]
noncomputable def gkT:List (Str×Addr):=[(ofString "read_fixed32",103),(ofString "read_fixed64",110),(ofString "user_of",138),(ofString "tag_of",145),(ofString "max_octets_of",533),(ofString "score_of",540),(ofString "_law_draw",547),(ofString "_law_ikey",554),(ofString "_law_tidy",561),(ofString "_law_wild",568),(ofString "_law_stand",573),(ofString "_law_levels",578),(ofString "_law_shows",583),(ofString "_law_score",588),(ofString "_law_scored",595),(ofString "_law_meta",602),(ofString "_law_spoil",609),(ofString "_law_finished",616),(ofString "_law_told",623),(ofString "_law_said",628),(ofString "InternalOrder",272),(ofString "Options",305),(ofString "FileMeta",340),(ofString "VersionEdit",375),(ofString "Version",466),(ofString "VersionMaker",522),(ofString "BytesOrder",218)]
noncomputable def fldT:List (Addr×List Str):=[(272,[ofString "user_order"]),(305,[ofString "num_levels",ofString "l0_trigger",ofString "base_bytes",ofString "level_factor"]),(340,[ofString "number",ofString "size",ofString "smallest",ofString "largest"]),
 (375,[ofString "comparator",ofString "log_number",ofString "next_file",ofString "last_seq",ofString "compact_pointers",ofString "deleted",ofString "added",ofString "reset"]),
 (466,[ofString "num_levels",ofString "order",ofString "files",ofString "refs",ofString "score",ofString "score_level"]),(522,[ofString "base",ofString "dropped",ofString "deleted",ofString "added"])]
noncomputable def stoT:List (Addr×List Str):=(305,[ofString "check",ofString "log_block",ofString "sync_writes",ofString "create_missing",ofString "paranoid",ofString "write_buffer",ofString "max_height",ofString "heights",ofString "block_size",ofString "restart_interval",ofString "filter_bits",ofString "filter_base_lg",ofString "max_file_size",ofString "num_levels",ofString "l0_trigger",ofString "l0_stop",ofString "base_bytes",ofString "level_factor",ofString "max_mem_level",ofString "grandparent_factor",ofString "expand_factor"])::fldT
noncomputable def metT:List (Addr×List (Str×Addr)):=[(218,[(ofString "compare",159)]),(272,[(ofString "compare",241)]),(340,[(ofString "row",337)]),(375,[(ofString "row",365)]),(466,[(ofString "level_octets",442),(ofString "numbers",449),(ofString "check",463)]),
 (522,[(ofString "within",491),(ofString "apply",498),(ofString "before",505),(ofString "place",512),(ofString "finish",519)])]
noncomputable def clsT:List (Addr×Addr):=[(272,234),(305,288),(340,330),(375,358),(466,400),(522,484)]
section
variable {α:Type} {x:Str} {c:Ctx}
noncomputable def lkp {κ:Type} [DecidableEq κ] (x:κ) (l:List (κ×α)):Option α:=@List.rec (κ×α) (fun _=>Option α) none (fun y _ ih=>@Prod.rec κ α (fun _=>Option α) (fun k v=>bif decide (x=k) then some v else ih) y) l
noncomputable def mem (x:Str) (l:List Str):Bool:=l.any fun y=>decide (x=y)
noncomputable def has (C:Addr) (x:Str) (T:List (Addr×List Str)):Bool:=((lkp C T).map (mem x)).getD false
noncomputable def hasM (C:Addr) (x:Str):Option Addr:=(lkp C metT).bind (lkp x)
theorem and_of {a b:Bool} (h:(a && b)=true):a=true∧b=true:=Bool.and_eq_true_iff.mp h
theorem bif_some {c:Bool} {u v:α} {o:Option α} (h:(bif c then some u else o)=some v):c=true∧u=v∨o=some v:=by
 cases c with
 | true=>exact .inl ⟨rfl,Option.some.inj h⟩
 | false=>exact .inr h
theorem lkp_mem {κ:Type} [DecidableEq κ] {x:κ} {v:α} {l:List (κ×α)} (h:lkp x l=some v):(x,v)∈l:=by
 induction l with
 | nil=>cases h
 | cons y l ih =>
  rcases bif_some (v:=v) (u:=y.2) (o:=lkp x l) h with ⟨e,rfl⟩ | h
  ·rw [of_decide_eq_true e]; exact .head _
  ·exact .tail _ (ih h)
theorem mem_mem {l:List Str} (h:mem x l=true):x∈l:=by
 obtain ⟨y,hy,e⟩:=List.any_eq_true.mp h
 rw [of_decide_eq_true e]; exact hy
theorem all_of {l:List α} {p:α→Bool} (h:l.all p=true) {a:α} (m:a∈l):p a=true:=List.all_eq_true.mp h a m
theorem has_all {C:Addr} {T:List (Addr×List Str)} {p:Addr→Str→Bool} (h:has C x T=true) (g:(T.all fun r=>r.2.all (p r.1))=true):p C x=true:=by
 unfold has at h
 cases e:lkp C T with
 | none=>rw [e] at h; cases h
 | some l=>rw [e] at h; exact all_of (all_of g (lkp_mem e)) (mem_mem h)
noncomputable def veq:Value→Value→Bool
 | .ref a,.ref b=>decide (a=b)
 | .builtin a,.builtin b=>decide (a=b)
 | .type a,.type b=>decide (a=b)
 | _,_=>false
theorem veq_eq {u v:Value} (h:veq u v=true):u=v:=by
 cases u <;> first
  | cases h
  | (cases v <;> first
   | cases h
   | exact congrArg _ (of_decide_eq_true h))
noncomputable def isV (u:Value) (o:Option (Option Value)):Bool:=o.any fun w=>w.any fun v=>veq v u
theorem isV_eq {u:Value} {o:Option (Option Value)} (h:isV u o=true):o=some (some u):=by
 cases o with
 | none=>cases h
 | some w =>
  cases w with
  | none=>cases h
  | some v=>exact congrArg (fun v=>some (some v)) (veq_eq h)
noncomputable def isW (u:Value) (o:Option Value):Bool:=o.any fun v=>veq v u
theorem isW_eq {u:Value} {o:Option Value} (h:isW u o=true):o=some u:=by
 cases o with
 | none=>cases h
 | some v=>exact congrArg some (veq_eq h)
noncomputable def isI (i:Int):Value→Bool
 | .int j _=>decide (j=i)
 | _=>false
theorem isI_eq {i:Int} {v:Value} (h:isI i v=true):er v=.int i:=by
 cases v <;> first
  | cases h
  | exact congrArg V.int (of_decide_eq_true h)
noncomputable def isIn (i:Int) (o:Option (Option Value)):Bool:=o.any fun w=>w.any (isI i)
theorem isIn_eq {i:Int} {o:Option (Option Value)} (h:isIn i o=true):∃ v,o=some (some v)∧er v=.int i:=by
 cases o with
 | none=>cases h
 | some w =>
  cases w with
  | none=>cases h
  | some v=>exact ⟨v,rfl,isI_eq h⟩
noncomputable def isSN (o:Option (Option α)):Bool:=o.any fun w=>w.isNone
theorem isSN_eq {o:Option (Option α)} (h:isSN o=true):o=some none:=by
 cases o with
 | none=>cases h
 | some w =>
  cases w with
  | none=>rfl
  | some v=>cases h
noncomputable def fldB (K:Frag) (C:Addr) (x:Str):Bool:=plainGet K C x && (hasDictIn K C && ((findIn K (.ref C) x).map (noGet K)).getD false)
noncomputable def stoB (K:Frag) (C:Addr) (x:Str):Bool:=isV (.builtin "object.__setattr__") (findIn K (.ref C) "__setattr__") && (plainOver K C && (isSN (takerIn K C x) && hasDictIn K C))
noncomputable def metB (K:Frag) (C:Addr) (p:Str×Addr):Bool:=plainGet K C p.1 && (isV (.ref p.2) (findIn K (.ref C) p.1) && (isFn K (.ref p.2) && keepIn K (.ref p.2)))
noncomputable def clsB (K:Frag) (p:Addr×Addr):Bool:=makesIn K p.1 && (isV (.ref p.2) (findIn K (.ref p.1) "__init__") && isW (.type "function") (typeIn K (.ref p.2)))
noncomputable def gkB (K:Frag) (p:Str×Addr):Bool:=isV (.ref p.2) (nsIn K mainGlobals p.1) && keepIn K (.ref p.2)
noncomputable def gvB (K:Frag) (p:Str×Int):Bool:=isIn p.2 (nsIn K mainGlobals p.1)
noncomputable def gbB (K:Frag) (p:Str×Value):Bool:=isSN (nsIn K mainGlobals p.1) && (isW p.2 (bootBuiltins p.1) && decide (p.1≠"__name__"))
noncomputable def allB (K:Frag):Bool:=fldT.all (fun r=>r.2.all (fldB K r.1)) && (stoT.all (fun r=>r.2.all (stoB K r.1)) && (metT.all (fun r=>r.2.all (metB K r.1)) && (clsT.all (clsB K) && (gkT.all (gkB K) && (gvT.all (gvB K) && gbT.all (gbB K))))))
theorem all_ok (q:Params):allB (hd.heap_39 q)=true:=by kernel_rfl
theorem Cx.all (x:Cx c):allB c.K=true:=x.K▸all_ok c.w.params
theorem Cx.fld (x:Cx c) {C:Addr} {s:Str} (h:has C s fldT=true):FldOk c C s:=by
 obtain ⟨h1,h2⟩:=and_of (has_all h (and_of x.all).1)
 obtain ⟨h2,h3⟩:=and_of h2
 refine ⟨h1,h2,?_⟩
 cases e:findIn c.K (.ref C) s with
 | none=>rw [e] at h3; cases h3
 | some a=>rw [e] at h3; exact ⟨a,rfl,h3⟩
theorem Cx.sto (x:Cx c) {C:Addr} {s:Str} (h:has C s stoT=true):StoOk c C s:=by
 obtain ⟨h1,h2⟩:=and_of (has_all h (and_of (and_of x.all).2).1)
 obtain ⟨h2,h3⟩:=and_of h2
 obtain ⟨h3,h4⟩:=and_of h3
 exact ⟨isV_eq h1,h2,isSN_eq h3,h4⟩
theorem Cx.met (x:Cx c) {C f:Addr} {s:Str} (h:hasM C s=some f):MetOk c C s f:=by
 obtain ⟨l,e,h⟩:=Option.bind_eq_some_iff.mp h
 obtain ⟨h1,h2⟩:=and_of (all_of (all_of (and_of (and_of (and_of x.all).2).2).1 (lkp_mem e)) (lkp_mem h))
 obtain ⟨h2,h3⟩:=and_of h2
 obtain ⟨h3,h4⟩:=and_of h3
 exact ⟨h1,isV_eq h2,h3,h4⟩
theorem Cx.cls (x:Cx c) {C f:Addr} (h:lkp C clsT=some f):ClsOk c C f:=by
 obtain ⟨h1,h2⟩:=and_of (all_of (and_of (and_of (and_of (and_of x.all).2).2).2).1 (lkp_mem h))
 obtain ⟨h2,h3⟩:=and_of h2
 exact ⟨h1,isV_eq h2,isW_eq h3⟩
theorem Cx.all4 (x:Cx c):(gkT.all (gkB c.K) && (gvT.all (gvB c.K) && gbT.all (gbB c.K)))=true:=(and_of (and_of (and_of (and_of x.all).2).2).2).2
theorem Cx.gk (x:Cx c) {s:Str} {f:Addr} (h:lkp s gkT=some f):gkB c.K (s,f)=true:=all_of (and_of x.all4).1 (lkp_mem h)
theorem Cx.g (x:Cx c) {s:Str} {f:Addr} (h:lkp s gkT=some f):Glob c s (.ref f):=.inl (isV_eq (and_of (x.gk h)).1)
theorem Cx.k (x:Cx c) {s:Str} {f:Addr} (h:lkp s gkT=some f):keepIn c.K (.ref f)=true:=(and_of (x.gk h)).2
theorem Cx.gv (x:Cx c) {s:Str} {i:Int} (h:lkp s gvT=some i):∃ v,Glob c s v∧er v=.int i:=by
 obtain ⟨v,e,h⟩:=isIn_eq (all_of (and_of (and_of x.all4).2).1 (lkp_mem h))
 exact ⟨v,.inl e,h⟩
theorem Cx.gb (x:Cx c) {s:Str} {v:Value} (h:lkp s gbT=some v):Glob c s v:=by
 obtain ⟨h1,h2⟩:=and_of (all_of (and_of (and_of x.all4).2).2 (lkp_mem h))
 obtain ⟨h2,h3⟩:=and_of h2
 exact .inr ⟨isSN_eq h1,isW_eq h2,of_decide_eq_true h3⟩
end
theorem args1 {p:List Value→Prop} (h:∀ a0,p [a0]):∀ l:List Value,l.length=1→p l:=argsN fun a0=>argsN0 (h a0)
theorem args2 {p:List Value→Prop} (h:∀ a0 a1,p [a0,a1]):∀ l:List Value,l.length=2→p l:=argsN fun a0=>argsN fun a1=>argsN0 (h a0 a1)
theorem args3 {p:List Value→Prop} (h:∀ a0 a1 a2,p [a0,a1,a2]):∀ l:List Value,l.length=3→p l:=argsN fun a0=>argsN fun a1=>argsN fun a2=>argsN0 (h a0 a1 a2)
theorem args4 {p:List Value→Prop} (h:∀ a0 a1 a2 a3,p [a0,a1,a2,a3]):∀ l:List Value,l.length=4→p l:=argsN fun a0=>argsN fun a1=>argsN fun a2=>argsN fun a3=>argsN0 (h a0 a1 a2 a3)
theorem args5 {p:List Value→Prop} (h:∀ a0 a1 a2 a3 a4,p [a0,a1,a2,a3,a4]):∀ l:List Value,l.length=5→p l:=argsN fun a0=>argsN fun a1=>argsN fun a2=>argsN fun a3=>argsN fun a4=>argsN0 (h a0 a1 a2 a3 a4)
theorem args6 {p:List Value→Prop} (h:∀ a0 a1 a2 a3 a4 a5,p [a0,a1,a2,a3,a4,a5]):∀ l:List Value,l.length=6→p l:=argsN fun a0=>argsN fun a1=>argsN fun a2=>argsN fun a3=>argsN fun a4=>argsN fun a5=>argsN0 (h a0 a1 a2 a3 a4 a5)
section
variable {c:Ctx}
noncomputable def fnChk (xs rest:List Str) (sc:Scope):Bool:=decide (sc.names.map (·.1)).Nodup && (decide (∀ x∈xs++rest,(x,NameKind.local)∈sc.names) && (decide (xs++rest).Nodup && decide (∀ v∈sc.names,(v.1 == ("__debug__" : Str))=false)))
theorem Cx.fn (x:Cx c) {f:Addr} {xs rest:List Str} {scope:Scope} {body:List Stmt} {cdv:Value} {qual:Str} (a:∀ p,FnAt (hd.heap_39 p) f xs scope body cdv qual) (b:∀ p,codeIn (hd.heap_39 p) cdv qual=true) (h:fnChk xs rest scope=true)
  (g:(decide (∀ x∈scope.names,x.2≠.cell) && (!scope.isCoroutine && (!scope.isGenerator && decide (scope.kind=.function))))=true):FnOk c f xs rest scope body cdv qual:=by
 have h2:=Bool.and_eq_true_iff.mp (Bool.and_eq_true_iff.mp h).2
 have h3:=Bool.and_eq_true_iff.mp h2.2
 have g2:=Bool.and_eq_true_iff.mp (Bool.and_eq_true_iff.mp g).2
 have g3:=Bool.and_eq_true_iff.mp g2.2
 exact ⟨x.K▸a _,x.K▸b _,of_decide_eq_true (Bool.and_eq_true_iff.mp h).1,of_decide_eq_true h2.1,of_decide_eq_true h3.1,of_decide_eq_true h3.2,of_decide_eq_true (Bool.and_eq_true_iff.mp g).1,Bool.not_eq_true' _▸g2.1,Bool.not_eq_true' _▸g3.1,of_decide_eq_true g3.2⟩
variable (x:Cx c)
include x
noncomputable def args_read_fixed32:List Str:=[Str.ofString "data",Str.ofString "at"]
noncomputable def rest_read_fixed32:List Str:=[]
theorem fn_read_fixed32:FnOk c 103 args_read_fixed32 rest_read_fixed32 (scopeOf 103) (bodyOf 103) (codeOf 103) (qualOf 103):=x.fn (fun _=>⟨_,_,_,_,_,_,_,_,_,_,_,rfl,args2 fun a0 a1=>rfl⟩) (fun _=>rfl) (by decide +kernel) (by decide +kernel)
noncomputable def args_read_fixed64:List Str:=[Str.ofString "data",Str.ofString "at"]
noncomputable def rest_read_fixed64:List Str:=[]
theorem fn_read_fixed64:FnOk c 110 args_read_fixed64 rest_read_fixed64 (scopeOf 110) (bodyOf 110) (codeOf 110) (qualOf 110):=x.fn (fun _=>⟨_,_,_,_,_,_,_,_,_,_,_,rfl,args2 fun a0 a1=>rfl⟩) (fun _=>rfl) (by decide +kernel) (by decide +kernel)
noncomputable def args_user_of:List Str:=[Str.ofString "ik"]
noncomputable def rest_user_of:List Str:=[]
theorem fn_user_of:FnOk c 138 args_user_of rest_user_of (scopeOf 138) (bodyOf 138) (codeOf 138) (qualOf 138):=x.fn (fun _=>⟨_,_,_,_,_,_,_,_,_,_,_,rfl,args1 fun a0=>rfl⟩) (fun _=>rfl) (by decide +kernel) (by decide +kernel)
noncomputable def args_tag_of:List Str:=[Str.ofString "ik"]
noncomputable def rest_tag_of:List Str:=[]
theorem fn_tag_of:FnOk c 145 args_tag_of rest_tag_of (scopeOf 145) (bodyOf 145) (codeOf 145) (qualOf 145):=x.fn (fun _=>⟨_,_,_,_,_,_,_,_,_,_,_,rfl,args1 fun a0=>rfl⟩) (fun _=>rfl) (by decide +kernel) (by decide +kernel)
noncomputable def args_Order_compare:List Str:=[Str.ofString "self",Str.ofString "a",Str.ofString "b"]
noncomputable def rest_Order_compare:List Str:=[]
theorem fn_Order_compare:FnOk c 159 args_Order_compare rest_Order_compare (scopeOf 159) (bodyOf 159) (codeOf 159) (qualOf 159):=x.fn (fun _=>⟨_,_,_,_,_,_,_,_,_,_,_,rfl,args3 fun a0 a1 a2=>rfl⟩) (fun _=>rfl) (by decide +kernel) (by decide +kernel)
noncomputable def args_InternalOrder___init__:List Str:=[Str.ofString "self"]
noncomputable def rest_InternalOrder___init__:List Str:=[]
theorem fn_InternalOrder___init__:FnOk c 234 args_InternalOrder___init__ rest_InternalOrder___init__ (scopeOf 234) (bodyOf 234) (codeOf 234) (qualOf 234):=x.fn (fun _=>⟨_,_,_,_,_,_,_,_,_,_,_,rfl,args1 fun a0=>rfl⟩) (fun _=>rfl) (by decide +kernel) (by decide +kernel)
noncomputable def args_InternalOrder_compare:List Str:=[Str.ofString "self",Str.ofString "a",Str.ofString "b"]
noncomputable def rest_InternalOrder_compare:List Str:=[Str.ofString "c",Str.ofString "tag_a",Str.ofString "tag_b"]
theorem fn_InternalOrder_compare:FnOk c 241 args_InternalOrder_compare rest_InternalOrder_compare (scopeOf 241) (bodyOf 241) (codeOf 241) (qualOf 241):=x.fn (fun _=>⟨_,_,_,_,_,_,_,_,_,_,_,rfl,args3 fun a0 a1 a2=>rfl⟩) (fun _=>rfl) (by decide +kernel) (by decide +kernel)
noncomputable def args_Options___init__:List Str:=[Str.ofString "self"]
noncomputable def rest_Options___init__:List Str:=[]
theorem fn_Options___init__:FnOk c 288 args_Options___init__ rest_Options___init__ (scopeOf 288) (bodyOf 288) (codeOf 288) (qualOf 288):=x.fn (fun _=>⟨_,_,_,_,_,_,_,_,_,_,_,rfl,args1 fun a0=>rfl⟩) (fun _=>rfl) (by decide +kernel) (by decide +kernel)
noncomputable def args_FileMeta___init__:List Str:=[Str.ofString "self",Str.ofString "number",Str.ofString "size",Str.ofString "smallest",Str.ofString "largest"]
noncomputable def rest_FileMeta___init__:List Str:=[]
theorem fn_FileMeta___init__:FnOk c 330 args_FileMeta___init__ rest_FileMeta___init__ (scopeOf 330) (bodyOf 330) (codeOf 330) (qualOf 330):=x.fn (fun _=>⟨_,_,_,_,_,_,_,_,_,_,_,rfl,args5 fun a0 a1 a2 a3 a4=>rfl⟩) (fun _=>rfl) (by decide +kernel) (by decide +kernel)
noncomputable def args_FileMeta_row:List Str:=[Str.ofString "self"]
noncomputable def rest_FileMeta_row:List Str:=[]
theorem fn_FileMeta_row:FnOk c 337 args_FileMeta_row rest_FileMeta_row (scopeOf 337) (bodyOf 337) (codeOf 337) (qualOf 337):=x.fn (fun _=>⟨_,_,_,_,_,_,_,_,_,_,_,rfl,args1 fun a0=>rfl⟩) (fun _=>rfl) (by decide +kernel) (by decide +kernel)
noncomputable def args_VersionEdit___init__:List Str:=[Str.ofString "self"]
noncomputable def rest_VersionEdit___init__:List Str:=[]
theorem fn_VersionEdit___init__:FnOk c 358 args_VersionEdit___init__ rest_VersionEdit___init__ (scopeOf 358) (bodyOf 358) (codeOf 358) (qualOf 358):=x.fn (fun _=>⟨_,_,_,_,_,_,_,_,_,_,_,rfl,args1 fun a0=>rfl⟩) (fun _=>rfl) (by decide +kernel) (by decide +kernel)
noncomputable def args_VersionEdit_row:List Str:=[Str.ofString "self"]
noncomputable def rest_VersionEdit_row:List Str:=[Str.ofString "added",Str.ofString "level",Str.ofString "meta"]
theorem fn_VersionEdit_row:FnOk c 365 args_VersionEdit_row rest_VersionEdit_row (scopeOf 365) (bodyOf 365) (codeOf 365) (qualOf 365):=x.fn (fun _=>⟨_,_,_,_,_,_,_,_,_,_,_,rfl,args1 fun a0=>rfl⟩) (fun _=>rfl) (by decide +kernel) (by decide +kernel)
noncomputable def args_Version___init__:List Str:=[Str.ofString "self",Str.ofString "num_levels",Str.ofString "order"]
noncomputable def rest_Version___init__:List Str:=[Str.ofString "level"]
theorem fn_Version___init__:FnOk c 400 args_Version___init__ rest_Version___init__ (scopeOf 400) (bodyOf 400) (codeOf 400) (qualOf 400):=x.fn (fun _=>⟨_,_,_,_,_,_,_,_,_,_,_,rfl,args3 fun a0 a1 a2=>rfl⟩) (fun _=>rfl) (by decide +kernel) (by decide +kernel)
noncomputable def args_Version_level_octets:List Str:=[Str.ofString "self",Str.ofString "level"]
noncomputable def rest_Version_level_octets:List Str:=[Str.ofString "octets",Str.ofString "meta"]
theorem fn_Version_level_octets:FnOk c 442 args_Version_level_octets rest_Version_level_octets (scopeOf 442) (bodyOf 442) (codeOf 442) (qualOf 442):=x.fn (fun _=>⟨_,_,_,_,_,_,_,_,_,_,_,rfl,args2 fun a0 a1=>rfl⟩) (fun _=>rfl) (by decide +kernel) (by decide +kernel)
noncomputable def args_Version_numbers:List Str:=[Str.ofString "self"]
noncomputable def rest_Version_numbers:List Str:=[Str.ofString "found",Str.ofString "files",Str.ofString "meta"]
theorem fn_Version_numbers:FnOk c 449 args_Version_numbers rest_Version_numbers (scopeOf 449) (bodyOf 449) (codeOf 449) (qualOf 449):=x.fn (fun _=>⟨_,_,_,_,_,_,_,_,_,_,_,rfl,args1 fun a0=>rfl⟩) (fun _=>rfl) (by decide +kernel) (by decide +kernel)
noncomputable def args_Version_check:List Str:=[Str.ofString "self"]
noncomputable def rest_Version_check:List Str:=[Str.ofString "numbers",Str.ofString "i",Str.ofString "level",Str.ofString "files",Str.ofString "meta",Str.ofString "before"]
theorem fn_Version_check:FnOk c 463 args_Version_check rest_Version_check (scopeOf 463) (bodyOf 463) (codeOf 463) (qualOf 463):=x.fn (fun _=>⟨_,_,_,_,_,_,_,_,_,_,_,rfl,args1 fun a0=>rfl⟩) (fun _=>rfl) (by decide +kernel) (by decide +kernel)
noncomputable def args_VersionMaker___init__:List Str:=[Str.ofString "self",Str.ofString "base"]
noncomputable def rest_VersionMaker___init__:List Str:=[Str.ofString "level"]
theorem fn_VersionMaker___init__:FnOk c 484 args_VersionMaker___init__ rest_VersionMaker___init__ (scopeOf 484) (bodyOf 484) (codeOf 484) (qualOf 484):=x.fn (fun _=>⟨_,_,_,_,_,_,_,_,_,_,_,rfl,args2 fun a0 a1=>rfl⟩) (fun _=>rfl) (by decide +kernel) (by decide +kernel)
noncomputable def args_VersionMaker_within:List Str:=[Str.ofString "self",Str.ofString "level"]
noncomputable def rest_VersionMaker_within:List Str:=[]
theorem fn_VersionMaker_within:FnOk c 491 args_VersionMaker_within rest_VersionMaker_within (scopeOf 491) (bodyOf 491) (codeOf 491) (qualOf 491):=x.fn (fun _=>⟨_,_,_,_,_,_,_,_,_,_,_,rfl,args2 fun a0 a1=>rfl⟩) (fun _=>rfl) (by decide +kernel) (by decide +kernel)
noncomputable def args_VersionMaker_apply:List Str:=[Str.ofString "self",Str.ofString "edit"]
noncomputable def rest_VersionMaker_apply:List Str:=[Str.ofString "level",Str.ofString "number",Str.ofString "meta"]
theorem fn_VersionMaker_apply:FnOk c 498 args_VersionMaker_apply rest_VersionMaker_apply (scopeOf 498) (bodyOf 498) (codeOf 498) (qualOf 498):=x.fn (fun _=>⟨_,_,_,_,_,_,_,_,_,_,_,rfl,args2 fun a0 a1=>rfl⟩) (fun _=>rfl) (by decide +kernel) (by decide +kernel)
noncomputable def args_VersionMaker_before:List Str:=[Str.ofString "self",Str.ofString "level",Str.ofString "a",Str.ofString "b"]
noncomputable def rest_VersionMaker_before:List Str:=[Str.ofString "c"]
theorem fn_VersionMaker_before:FnOk c 505 args_VersionMaker_before rest_VersionMaker_before (scopeOf 505) (bodyOf 505) (codeOf 505) (qualOf 505):=x.fn (fun _=>⟨_,_,_,_,_,_,_,_,_,_,_,rfl,args4 fun a0 a1 a2 a3=>rfl⟩) (fun _=>rfl) (by decide +kernel) (by decide +kernel)
noncomputable def args_VersionMaker_place:List Str:=[Str.ofString "self",Str.ofString "level",Str.ofString "files",Str.ofString "meta"]
noncomputable def rest_VersionMaker_place:List Str:=[Str.ofString "low",Str.ofString "high",Str.ofString "mid"]
theorem fn_VersionMaker_place:FnOk c 512 args_VersionMaker_place rest_VersionMaker_place (scopeOf 512) (bodyOf 512) (codeOf 512) (qualOf 512):=x.fn (fun _=>⟨_,_,_,_,_,_,_,_,_,_,_,rfl,args4 fun a0 a1 a2 a3=>rfl⟩) (fun _=>rfl) (by decide +kernel) (by decide +kernel)
noncomputable def args_VersionMaker_finish:List Str:=[Str.ofString "self"]
noncomputable def rest_VersionMaker_finish:List Str:=[Str.ofString "made",Str.ofString "level",Str.ofString "files",Str.ofString "meta",Str.ofString "number"]
theorem fn_VersionMaker_finish:FnOk c 519 args_VersionMaker_finish rest_VersionMaker_finish (scopeOf 519) (bodyOf 519) (codeOf 519) (qualOf 519):=x.fn (fun _=>⟨_,_,_,_,_,_,_,_,_,_,_,rfl,args1 fun a0=>rfl⟩) (fun _=>rfl) (by decide +kernel) (by decide +kernel)
noncomputable def args_max_octets_of:List Str:=[Str.ofString "options",Str.ofString "level"]
noncomputable def rest_max_octets_of:List Str:=[Str.ofString "result"]
theorem fn_max_octets_of:FnOk c 533 args_max_octets_of rest_max_octets_of (scopeOf 533) (bodyOf 533) (codeOf 533) (qualOf 533):=x.fn (fun _=>⟨_,_,_,_,_,_,_,_,_,_,_,rfl,args2 fun a0 a1=>rfl⟩) (fun _=>rfl) (by decide +kernel) (by decide +kernel)
noncomputable def args_score_of:List Str:=[Str.ofString "version",Str.ofString "options"]
noncomputable def rest_score_of:List Str:=[Str.ofString "best_top",Str.ofString "best_bottom",Str.ofString "best_level",Str.ofString "level",Str.ofString "top",Str.ofString "bottom"]
theorem fn_score_of:FnOk c 540 args_score_of rest_score_of (scopeOf 540) (bodyOf 540) (codeOf 540) (qualOf 540):=x.fn (fun _=>⟨_,_,_,_,_,_,_,_,_,_,_,rfl,args2 fun a0 a1=>rfl⟩) (fun _=>rfl) (by decide +kernel) (by decide +kernel)
noncomputable def args__law_draw:List Str:=[Str.ofString "nums",Str.ofString "i"]
noncomputable def rest__law_draw:List Str:=[]
theorem fn__law_draw:FnOk c 547 args__law_draw rest__law_draw (scopeOf 547) (bodyOf 547) (codeOf 547) (qualOf 547):=x.fn (fun _=>⟨_,_,_,_,_,_,_,_,_,_,_,rfl,args2 fun a0 a1=>rfl⟩) (fun _=>rfl) (by decide +kernel) (by decide +kernel)
noncomputable def args__law_ikey:List Str:=[Str.ofString "end"]
noncomputable def rest__law_ikey:List Str:=[Str.ofString "user"]
theorem fn__law_ikey:FnOk c 554 args__law_ikey rest__law_ikey (scopeOf 554) (bodyOf 554) (codeOf 554) (qualOf 554):=x.fn (fun _=>⟨_,_,_,_,_,_,_,_,_,_,_,rfl,args1 fun a0=>rfl⟩) (fun _=>rfl) (by decide +kernel) (by decide +kernel)
noncomputable def args__law_tidy:List Str:=[Str.ofString "v",Str.ofString "count",Str.ofString "t"]
noncomputable def rest__law_tidy:List Str:=[Str.ofString "level",Str.ofString "j",Str.ofString "size"]
theorem fn__law_tidy:FnOk c 561 args__law_tidy rest__law_tidy (scopeOf 561) (bodyOf 561) (codeOf 561) (qualOf 561):=x.fn (fun _=>⟨_,_,_,_,_,_,_,_,_,_,_,rfl,args3 fun a0 a1 a2=>rfl⟩) (fun _=>rfl) (by decide +kernel) (by decide +kernel)
noncomputable def args__law_wild:List Str:=[Str.ofString "v",Str.ofString "count",Str.ofString "t"]
noncomputable def rest__law_wild:List Str:=[]
theorem fn__law_wild:FnOk c 568 args__law_wild rest__law_wild (scopeOf 568) (bodyOf 568) (codeOf 568) (qualOf 568):=x.fn (fun _=>⟨_,_,_,_,_,_,_,_,_,_,_,rfl,args3 fun a0 a1 a2=>rfl⟩) (fun _=>rfl) (by decide +kernel) (by decide +kernel)
noncomputable def args__law_stand:List Str:=[Str.ofString "words"]
noncomputable def rest__law_stand:List Str:=[Str.ofString "stand",Str.ofString "i",Str.ofString "kind",Str.ofString "meta",Str.ofString "later"]
noncomputable def cels__law_stand:List Str:=[Str.ofString "level",Str.ofString "number"]
theorem fn__law_stand:FnOkC c 573 args__law_stand rest__law_stand cels__law_stand (scopeOf 573) (bodyOf 573) (codeOf 573) (qualOf 573) where
 at_:=by rw [x.K]; exact ⟨_,_,_,_,_,_,_,_,_,_,_,rfl,args1 fun a0=>rfl⟩
 code:=by rw [x.K]; rfl
 names:=by decide
 locals:=by decide
 nodup:=by decide
 dbg:=by decide
 cels:=by decide
 cel:=fun L y hy=>by
  simp only [cels__law_stand,List.mem_cons,List.not_mem_nil,or_false] at hy
  rcases hy with rfl | rfl <;> rfl
 co:=rfl
 gen:=rfl
 kind:=rfl
noncomputable def args__law_levels:List Str:=[Str.ofString "words",Str.ofString "count"]
noncomputable def rest__law_levels:List Str:=[Str.ofString "stand",Str.ofString "levels",Str.ofString "i",Str.ofString "level",Str.ofString "meta",Str.ofString "other",Str.ofString "its"]
theorem fn__law_levels:FnOk c 578 args__law_levels rest__law_levels (scopeOf 578) (bodyOf 578) (codeOf 578) (qualOf 578):=x.fn (fun _=>⟨_,_,_,_,_,_,_,_,_,_,_,rfl,args2 fun a0 a1=>rfl⟩) (fun _=>rfl) (by decide +kernel) (by decide +kernel)
noncomputable def args__law_shows:List Str:=[Str.ofString "version",Str.ofString "levels"]
noncomputable def rest__law_shows:List Str:=[Str.ofString "rows"]
theorem fn__law_shows:FnOk c 583 args__law_shows rest__law_shows (scopeOf 583) (bodyOf 583) (codeOf 583) (qualOf 583):=x.fn (fun _=>⟨_,_,_,_,_,_,_,_,_,_,_,rfl,args2 fun a0 a1=>rfl⟩) (fun _=>rfl) (by decide +kernel) (by decide +kernel)
noncomputable def args__law_score:List Str:=[Str.ofString "levels",Str.ofString "options"]
noncomputable def rest__law_score:List Str:=[Str.ofString "level",Str.ofString "most"]
noncomputable def cels__law_score:List Str:=[Str.ofString "fulls",Str.ofString "i"]
theorem fn__law_score:FnOkC c 588 args__law_score rest__law_score cels__law_score (scopeOf 588) (bodyOf 588) (codeOf 588) (qualOf 588) where
 at_:=by rw [x.K]; exact ⟨_,_,_,_,_,_,_,_,_,_,_,rfl,args2 fun a0 a1=>rfl⟩
 code:=by rw [x.K]; rfl
 names:=by decide
 locals:=by decide
 nodup:=by decide
 dbg:=by decide
 cels:=by decide
 cel:=fun L y hy=>by
  simp only [cels__law_score,List.mem_cons,List.not_mem_nil,or_false] at hy
  rcases hy with rfl | rfl <;> rfl
 co:=rfl
 gen:=rfl
 kind:=rfl
noncomputable def args__law_scored:List Str:=[Str.ofString "version",Str.ofString "levels",Str.ofString "options"]
noncomputable def rest__law_scored:List Str:=[Str.ofString "told"]
theorem fn__law_scored:FnOk c 595 args__law_scored rest__law_scored (scopeOf 595) (bodyOf 595) (codeOf 595) (qualOf 595):=x.fn (fun _=>⟨_,_,_,_,_,_,_,_,_,_,_,rfl,args3 fun a0 a1 a2=>rfl⟩) (fun _=>rfl) (by decide +kernel) (by decide +kernel)
noncomputable def args__law_meta:List Str:=[Str.ofString "level",Str.ofString "meta"]
noncomputable def rest__law_meta:List Str:=[]
theorem fn__law_meta:FnOk c 602 args__law_meta rest__law_meta (scopeOf 602) (bodyOf 602) (codeOf 602) (qualOf 602):=x.fn (fun _=>⟨_,_,_,_,_,_,_,_,_,_,_,rfl,args2 fun a0 a1=>rfl⟩) (fun _=>rfl) (by decide +kernel) (by decide +kernel)
noncomputable def args__law_spoil:List Str:=[Str.ofString "version"]
noncomputable def rest__law_spoil:List Str:=[Str.ofString "files"]
theorem fn__law_spoil:FnOk c 609 args__law_spoil rest__law_spoil (scopeOf 609) (bodyOf 609) (codeOf 609) (qualOf 609):=x.fn (fun _=>⟨_,_,_,_,_,_,_,_,_,_,_,rfl,args1 fun a0=>rfl⟩) (fun _=>rfl) (by decide +kernel) (by decide +kernel)
noncomputable def args__law_finished:List Str:=[Str.ofString "maker",Str.ofString "levels",Str.ofString "made"]
noncomputable def rest__law_finished:List Str:=[Str.ofString "version"]
theorem fn__law_finished:FnOk c 616 args__law_finished rest__law_finished (scopeOf 616) (bodyOf 616) (codeOf 616) (qualOf 616):=x.fn (fun _=>⟨_,_,_,_,_,_,_,_,_,_,_,rfl,args3 fun a0 a1 a2=>rfl⟩) (fun _=>rfl) (by decide +kernel) (by decide +kernel)
noncomputable def args__law_told:List Str:=[Str.ofString "maker",Str.ofString "said",Str.ofString "count"]
noncomputable def rest__law_told:List Str:=[Str.ofString "edit",Str.ofString "bad",Str.ofString "kind",Str.ofString "level",Str.ofString "number",Str.ofString "meta",Str.ofString "row",Str.ofString "refused"]
theorem fn__law_told:FnOk c 623 args__law_told rest__law_told (scopeOf 623) (bodyOf 623) (codeOf 623) (qualOf 623):=x.fn (fun _=>⟨_,_,_,_,_,_,_,_,_,_,_,rfl,args3 fun a0 a1 a2=>rfl⟩) (fun _=>rfl) (by decide +kernel) (by decide +kernel)
noncomputable def args__law_said:List Str:=[Str.ofString "what",Str.ofString "v",Str.ofString "words",Str.ofString "wilds",Str.ofString "count",Str.ofString "t"]
noncomputable def rest__law_said:List Str:=[Str.ofString "level",Str.ofString "meta",Str.ofString "said",Str.ofString "stand",Str.ofString "k"]
theorem fn__law_said:FnOk c 628 args__law_said rest__law_said (scopeOf 628) (bodyOf 628) (codeOf 628) (qualOf 628):=x.fn (fun _=>⟨_,_,_,_,_,_,_,_,_,_,_,rfl,args6 fun a0 a1 a2 a3 a4 a5=>rfl⟩) (fun _=>rfl) (by decide +kernel) (by decide +kernel)
noncomputable def args_law:List Str:=[Str.ofString "script"]
noncomputable def rest_law:List Str:=[Str.ofString "made",Str.ofString "t",Str.ofString "x",Str.ofString "m",Str.ofString "what",Str.ofString "said",Str.ofString "levels",Str.ofString "times",Str.ofString "k",Str.ofString "version",Str.ofString "i",Str.ofString "level",Str.ofString "meta",Str.ofString "nums",Str.ofString "a",Str.ofString "b",Str.ofString "count",Str.ofString "options",Str.ofString "first",Str.ofString "maker",Str.ofString "base",Str.ofString "ground",Str.ofString "score",Str.ofString "makers",Str.ofString "words",Str.ofString "wilds"]
theorem fn_law:FnOk c 633 args_law rest_law (scopeOf 633) (bodyOf 633) (codeOf 633) (qualOf 633):=x.fn (fun _=>⟨_,_,_,_,_,_,_,_,_,_,_,rfl,args1 fun a0=>rfl⟩) (fun _=>rfl) (by decide +kernel) (by decide +kernel)
end
structure Run (Φ:Act) (n:Nat) (vs:Vars) (sc:Scope):Prop where
 ok:Φ.Ok n
 vars:Φ.vars=vs
 scope:Φ.env.scope=sc
 cx:Cx Φ.toCtx
structure RunF (Φ:Act) (n:Nat) (vs:Vars) (sc:Scope):Prop extends Run Φ n vs sc where
 comp:Φ.comp=none
 inter:interactive Φ.env=false
 blk:Φ.env.blockKind=.function
 hfe:(∀ v∈vs,v.2=none)→∃ name scope L a cd,Φ.env=envOf name scope L a cd∧scope.kind=.function∧Φ.L=L
section
variable {c:Ctx} {Φ:Act} {n:Nat} {M M':Loc} {σ:Sto} {Q:KV} {R:KL} {pos:Pos} {k:Nat} {F:KF} {vs:Vars} {sc:Scope}
theorem blk {env:Env} (h:env.scope.kind=.function):interactive env=false∧env.blockKind=.function:=⟨by unfold interactive; rw [h]; rfl,by unfold Env.blockKind; rw [h]; rfl⟩
theorem InFn.run {f:Addr} {xs rest:List Str} {scope:Scope} {cdv:Value} {qual:Str} (x:Cx c) (i:InFn c n f xs rest scope cdv qual Φ) (hk:scope.kind=.function) (hv:(xs++rest).map (fun x=>((x,none):Str×Option Addr))=vs):RunF Φ n vs scope:=by
 obtain ⟨L,e⟩:=i.env
 have hL:Φ.L=L:=by
  have:=i.ok.ff
  rw [i.ok.fn i.comp,e] at this
  injection this with this
  exact this.symm
 exact ⟨⟨i.ok,i.vars.trans hv,by rw [e]; rfl,i.ctx▸x⟩,i.comp,by rw [e]; exact (blk (env:=envOf qual scope L f cdv) hk).1,by rw [e]; exact (blk (env:=envOf qual scope L f cdv) hk).2,fun _=>⟨_,_,L,_,_,e,hk,hL⟩⟩
noncomputable def lk (x:Str) (vs:Vars):Loc→Option V:=@List.rec (Str×Option Addr) (fun _=>Loc→Option V) (fun _=>none) (fun y _ ih M=>@List.rec (Option V) (fun _=>Option V) none (fun m M _=>bif decide (x=y.1) then m else ih M) M) vs
noncomputable def stK {α:Type} (x:Str) (v:V) (vs:Vars):Loc→(Loc→Option α)→Option α:=@List.rec (Str×Option Addr) (fun _=>Loc→(Loc→Option α)→Option α) (fun _ _=>none) (fun y _ ih M k=>@List.rec (Option V) (fun _=>Option α) none (fun m M _=>bif decide (x=y.1) then k (some v::M) else ih M fun M'=>k (m::M')) M) vs
noncomputable def nmE:Expr→Option (Str×Pos)
 | .Name x p=>some (x,p)
 | _=>none
theorem nmE_eq {e:Expr} {x:Str×Pos} (h:nmE e=some x):e=.Name x.1 x.2:=by
 cases e <;> cases h
 rfl
noncomputable def stsK {α:Type} (vs:Vars) (es:List Expr):List V→Loc→(Loc→Option α)→Option α:=@List.rec Expr (fun _=>List V→Loc→(Loc→Option α)→Option α) (fun Vs M k=>@List.rec V (fun _=>Option α) (k M) (fun _ _ _=>none) Vs)
 (fun e _ ih Vs M k=>@List.rec V (fun _=>Option α) none (fun v Vs _=>(nmE e).bind fun x=>stK x.1 v vs M fun M'=>ih Vs M' k) Vs) es
noncomputable def rsK {α:Type} (r:List Str):(Loc→Vars→Option α)→Option α:=@List.rec Str (fun _=>(Loc→Vars→Option α)→Option α) (fun k=>k [] []) (fun x _ ih k=>ih fun M vs=>k (none::M) ((x,none)::vs)) r
noncomputable def entK {α:Type} (r:List Str) (Vs:List V):List Str→(Loc→Vars→Option α)→Option α:=@List.rec V (fun _=>List Str→(Loc→Vars→Option α)→Option α) (fun xs k=>@List.rec Str (fun _=>Option α) (rsK r k) (fun _ _ _=>none) xs)
 (fun v _ ih xs k=>@List.rec Str (fun _=>Option α) none (fun x xs _=>ih xs fun M vs=>k (some v::M) ((x,none)::vs)) xs) Vs
theorem lk_var {x:Str} {v:V} {vs:Vars} {M:Loc} (h:lk x vs M=some v):Var vs M x v:=by
 induction vs generalizing M with
 | nil=>cases h
 | cons y vs ih =>
  cases M with
  | nil=>cases h
  | cons m M =>
   have h:(bif decide (x=y.1) then m else lk x vs M)=some v:=h
   cases e:decide (x=y.1) with
   | true=>rw [e] at h; rw [of_decide_eq_true e,show m=some v from h]; exact .head
   | false=>rw [e] at h; exact .tail (ih h)
theorem stK_go {α:Type} {x:Str} {v:V} {N:α} {vs:Vars} {M:Loc} {k:Loc→Option α} (h:stK x v vs M k=some N):∃ M',SetV vs M x v M'∧k M'=some N:=by
 induction vs generalizing M k with
 | nil=>cases h
 | cons y vs ih =>
  cases M with
  | nil=>cases h
  | cons m M =>
   have h:(bif decide (x=y.1) then k (some v::M) else stK x v vs M fun M'=>k (m::M'))=some N:=h
   cases e:decide (x=y.1) with
   | true=>rw [e] at h; rw [of_decide_eq_true e]; exact ⟨_,.head,h⟩
   | false =>
    rw [e] at h
    obtain ⟨M',h1,h2⟩:=ih h
    exact ⟨_,.tail h1,h2⟩
theorem stK_ok {x:Str} {v:V} (h:stK x v vs M some=some M'):SetV vs M x v M':=by
 obtain ⟨M1,h1,h2⟩:=stK_go h
 cases h2
 exact h1
theorem stsK_go {α:Type} {N:α} {es:List Expr} {Vs:List V} {M:Loc} {k:Loc→Option α} (h:stsK vs es Vs M k=some N):∃ M',SetVs vs M es Vs M'∧k M'=some N:=by
 induction es generalizing Vs M with
 | nil =>
  cases Vs with
  | nil=>exact ⟨_,.nil,h⟩
  | cons=>cases h
 | cons e es ih =>
  cases Vs with
  | nil=>cases h
  | cons v Vs =>
   obtain ⟨x,h0,h⟩:=Option.bind_eq_some_iff.mp h
   obtain ⟨M1,h1,h2⟩:=stK_go h
   obtain ⟨M2,h3,h4⟩:=ih h2
   exact ⟨M2,nmE_eq h0▸.cons h1 h3,h4⟩
theorem stsK_ok {es:List Expr} {Vs:List V} (h:stsK vs es Vs M some=some M'):SetVs vs M es Vs M':=by
 obtain ⟨M1,h1,h2⟩:=stsK_go h
 cases h2
 exact h1
theorem rsK_go {α:Type} {N:α} {r:List Str} {k:Loc→Vars→Option α} (h:rsK r k=some N):k (r.map fun _=>none) (r.map fun x=>(x,none))=some N:=by
 induction r generalizing k with
 | nil=>exact h
 | cons _ r ih=>exact ih h
theorem entK_go {α:Type} {N:α} {r:List Str} {Vs:List V} {xs:List Str} {k:Loc→Vars→Option α} (h:entK r Vs xs k=some N) :
  Vs.length=xs.length∧k (Vs.map some++r.map fun _=>none) ((xs++r).map fun x=>(x,none))=some N:=by
 induction Vs generalizing xs k with
 | nil =>
  cases xs with
  | nil=>exact ⟨rfl,rsK_go h⟩
  | cons=>cases h
 | cons v Vs ih =>
  cases xs with
  | nil=>cases h
  | cons x xs =>
   obtain ⟨h1,h2⟩:=ih h
   exact ⟨congrArg (·+1) h1,h2⟩
theorem Call.go (x:Cx c) {Q:KV} {R:Sto→Prop} {f:Addr} {xs rest:List Str} {scope:Scope} {body:List Stmt} {cdv:Value} {qual:Str} {Vs:List V} (fo:FnOk c f xs rest scope body cdv qual)
  (hb:∀ Φ,RunF Φ n vs scope→SS Φ body M σ (kFn Q) (kR R)) (e:entK rest Vs xs (fun M vs=>some (M,vs))=some (M,vs):=by rfl):Call c (n+1) (.ref f) Vs σ Q R:=by
 obtain ⟨h1,h2⟩:=entK_go e
 cases h2
 exact Call.enter fo h1 fun Φ i=>hb Φ (i.run x fo.kind rfl)
theorem SE_nm (r:Run Φ n vs sc) {x:Str} {V:V} (hv:Var vs M x V) (q:Q V σ):SE Φ (.Name x pos) M σ Q R:=SE_name r.ok (r.vars▸hv) q
theorem SE_gc (r:Run Φ n vs sc) {x:Str} {V:V} (hx:decide ((x,NameKind.globalImplicit)∈sc.names)=true) (h:∃ v,Glob Φ.toCtx x v∧er v=V) (q:Q V σ):SE Φ (.Name x pos) M σ Q R:=by
 obtain ⟨v,hg,rfl⟩:=h
 exact SE_glob r.ok (by rw [r.scope]; exact of_decide_eq_true hx) hg q
theorem SE_bc (r:Run Φ n vs sc) {x:Str} {np:Pos} {id:String} {e:Expr} {es:List Expr} (hx:decide ((x,NameKind.globalImplicit)∈sc.names)=true) (hg:Glob Φ.toCtx x (.builtin id)) (he:starEach (e::es) Φ.env=(false,eval e Φ.env)::starEach es Φ.env) (hplain:(backTo pos (starEach es Φ.env)).any (·.1)=false)
  (h:SA Φ pos (e::es) M σ (kBc Φ (.builtin id) M Q R) R):SE Φ (.Call (.Name x np) (e::es) [] pos) M σ Q R:=SE_bcall r.ok (by rw [r.scope]; exact of_decide_eq_true hx) hg he hplain h
theorem SE_tc (r:Run Φ n vs sc) {x:Str} {np:Pos} {id:String} {e:Expr} {es:List Expr} (hx:decide ((x,NameKind.globalImplicit)∈sc.names)=true) (hg:Glob Φ.toCtx x (.type id)) (he:starEach (e::es) Φ.env=(false,eval e Φ.env)::starEach es Φ.env) (hplain:(backTo pos (starEach es Φ.env)).any (·.1)=false)
  (h:SA Φ pos (e::es) M σ (kBc Φ (.type id) M Q R) R):SE Φ (.Call (.Name x np) (e::es) [] pos) M σ Q R:=SE_tcall r.ok (by rw [r.scope]; exact of_decide_eq_true hx) hg he hplain h
theorem SE_cl (r:Run Φ n vs sc) {x:Str} {np:Pos} {f:Value} {e:Expr} {es:List Expr} (hx:decide ((x,NameKind.globalImplicit)∈sc.names)=true) (hg:Glob Φ.toCtx x f) (hk:keepIn Φ.K f=true) (he:starEach (e::es) Φ.env=(false,eval e Φ.env)::starEach es Φ.env) (hplain:(backTo pos (starEach es Φ.env)).any (·.1)=false)
  (h:SA Φ pos (e::es) M σ (kCl Φ.toCtx n f Q (R M)) R):SE Φ (.Call (.Name x np) (e::es) [] pos) M σ Q R:=SE_call r.ok (by rw [r.scope]; exact of_decide_eq_true hx) hg hk he hplain h
theorem SE_cl0 (r:Run Φ n vs sc) {x:Str} {np:Pos} {f:Value} (hx:decide ((x,NameKind.globalImplicit)∈sc.names)=true) (hg:Glob Φ.toCtx x f) (hk:keepIn Φ.K f=true)
  (h:Call Φ.toCtx n f [] σ Q (R M)):SE Φ (.Call (.Name x np) [] [] pos) M σ Q R:=SE_call0 r.ok (by rw [r.scope]; exact of_decide_eq_true hx) hg hk h
theorem SX_as (r:Run Φ n vs sc) {x:Str} {e:Expr} {pos':Pos} (hs:swapsWith e (some (.Name x pos')) pos.line Φ.env=pure false) (h:SE Φ e M σ (kAs vs M x F) R):SX Φ (.Assign [.Name x pos'] e pos) M σ F R :=
 SX_assign r.ok hs (r.vars▸h)
end
local macro_rules | `(tactic| walk_at "run")=>`(tactic| first | assumption | exact RunF.toRun (by assumption))
local macro_rules | `(tactic| walk_at "dk")=>`(tactic| decide +kernel)
section
variable {c:Ctx} {Φ:Act} {n:Nat} {M M':Loc} {σ:Sto} {Q:KV} {R:KL} {pos:Pos} {k:Nat} {F:KF} {vs:Vars} {sc:Scope}
theorem WE_nm {x:Str} {V:V} (q:Q V σ) (r:Run Φ n vs sc:=by walk_at "run") (hv:lk x vs M=some V:=by k_dflt rfl):SE Φ (.Name x pos) M σ Q R:=SE_nm r (lk_var hv) q
theorem WE_gc {x:Str} {i:Int} (q:Q (.int i) σ) (h:lkp x gvT=some i:=by k_dflt rfl) (r:Run Φ n vs sc:=by walk_at "run") (hx:decide ((x,NameKind.globalImplicit)∈sc.names)=true:=by walk_at "dk"):SE Φ (.Name x pos) M σ Q R:=SE_gc r hx (r.cx.gv h) q
theorem WE_bc {x:Str} {np:Pos} {id:String} {e:Expr} {es:List Expr} (h:SA Φ pos (e::es) M σ (kBc Φ (.builtin id) M Q R) R) (hg:lkp x gbT=some (.builtin id):=by k_dflt rfl) (r:Run Φ n vs sc:=by walk_at "run") (hx:decide ((x,NameKind.globalImplicit)∈sc.names)=true:=by walk_at "dk") (he:starEach (e::es) Φ.env=(false,eval e Φ.env)::starEach es Φ.env:=by k_dflt rfl) (hplain:(backTo pos (starEach es Φ.env)).any (·.1)=false:=by k_dflt rfl):SE Φ (.Call (.Name x np) (e::es) [] pos) M σ Q R:=SE_bc r hx (r.cx.gb hg) he hplain h
theorem WE_tc {x:Str} {np:Pos} {id:String} {e:Expr} {es:List Expr} (h:SA Φ pos (e::es) M σ (kBc Φ (.type id) M Q R) R) (hg:lkp x gbT=some (.type id):=by k_dflt rfl) (r:Run Φ n vs sc:=by walk_at "run") (hx:decide ((x,NameKind.globalImplicit)∈sc.names)=true:=by walk_at "dk") (he:starEach (e::es) Φ.env=(false,eval e Φ.env)::starEach es Φ.env:=by k_dflt rfl) (hplain:(backTo pos (starEach es Φ.env)).any (·.1)=false:=by k_dflt rfl):SE Φ (.Call (.Name x np) (e::es) [] pos) M σ Q R:=SE_tc r hx (r.cx.gb hg) he hplain h
theorem WE_cl {x:Str} {np:Pos} {f:Addr} {e:Expr} {es:List Expr} (h:SA Φ pos (e::es) M σ (kCl Φ.toCtx n (.ref f) Q (R M)) R) (hg:lkp x gkT=some f:=by k_dflt rfl) (r:Run Φ n vs sc:=by walk_at "run") (hx:decide ((x,NameKind.globalImplicit)∈sc.names)=true:=by walk_at "dk") (he:starEach (e::es) Φ.env=(false,eval e Φ.env)::starEach es Φ.env:=by k_dflt rfl) (hplain:(backTo pos (starEach es Φ.env)).any (·.1)=false:=by k_dflt rfl):SE Φ (.Call (.Name x np) (e::es) [] pos) M σ Q R:=SE_cl r hx (r.cx.g hg) (r.cx.k hg) he hplain h
theorem WE_cl0 {x:Str} {np:Pos} {f:Addr} (h:Call Φ.toCtx n (.ref f) [] σ Q (R M)) (hg:lkp x gkT=some f:=by k_dflt rfl) (r:Run Φ n vs sc:=by walk_at "run") (hx:decide ((x,NameKind.globalImplicit)∈sc.names)=true:=by walk_at "dk"):SE Φ (.Call (.Name x np) [] [] pos) M σ Q R:=SE_cl0 r hx (r.cx.g hg) (r.cx.k hg) h
theorem WE_cmp {op:CmpOp} {l r:Expr} (hl:SE Φ l M σ (kC1 Φ op r M Q R) R) (hm:behindInMarks op r=false:=by k_dflt rfl):SE Φ (.Compare l [op] [r] pos) M σ Q R:=SE_cmp hm hl
theorem WT_cmp {op:CmpOp} {l r:Expr} {Q:KB} (hl:SE Φ l M σ (kC1 Φ op r M (kBV Q) R) R) (hm:behindInMarks op r=false:=by k_dflt rfl):ST Φ (.Compare l [op] [r] pos) M σ Q R:=ST_cmp hm hl
theorem WT_val {e:Expr} {Q:KB} (h:SE Φ e M σ (kBV Q) R) (he:isTrue e Φ.env (eval e Φ.env)=(do let v ← eval e Φ.env; standAt e.pos; holding [v] (truthy v)):=by k_dflt rfl):ST Φ e M σ Q R:=ST_val he h
theorem WA_cons {e:Expr} {es:List Expr} {Q:KA} (h:SE Φ e M σ (kA Φ pos es M Q R) R) (he:starEach (e::es) Φ.env=(false,eval e Φ.env)::starEach es Φ.env:=by k_dflt rfl):SA Φ pos (e::es) M σ Q R:=SA_cons he h
theorem WX_as {x:Str} {e:Expr} {pos':Pos} (h:SE Φ e M σ (kAs vs M x F) R) (r:Run Φ n vs sc:=by walk_at "run") (hs:swapsWith e (some (.Name x pos')) pos.line Φ.env=pure false:=by k_dflt rfl):SX Φ (.Assign [.Name x pos'] e pos) M σ F R:=SX_as r hs h
end
section
variable {Φ:Act} {x:Str} {a b c d e:Expr} {es:List Expr} {op:CmpOp} {p p':Pos} {M:Loc} {σ:Sto} {Q:KV} {QB:KB} {QA:KA} {F:KF} {R:KL} {k:Nat} {KS:Sto→Prop}
noncomputable abbrev gNm:Prop:=SE Φ (.Name x p) M σ Q R
noncomputable abbrev gCm:Prop:=SE Φ (.Compare a [op] [b] p) M σ Q R
noncomputable abbrev gTc:Prop:=ST Φ (.Compare a [op] [b] p) M σ QB R
noncomputable abbrev gTv:Prop:=ST Φ a M σ QB R
noncomputable abbrev gAc:Prop:=SA Φ p (a::es) M σ QA R
noncomputable abbrev gAs:Prop:=SX Φ (.Assign [.Name x p'] a p) M σ F R
noncomputable abbrev gC0:Prop:=SE Φ (.Call (.Name x p') [] [] p) M σ Q R
noncomputable abbrev gFs:Prop:=SE Φ (.JoinedStr (a::b::es) p) M σ Q R
noncomputable abbrev gJs:Prop:=SJ Φ (.Constant (.str x) k p::es) M σ KS R
noncomputable abbrev gCl:Prop:=SE Φ (.Call (.Name x p') (a::es) [] p) M σ Q R
end
local macro_rules | `(tactic| walk_at "s")=>do
 let l (s:String):=(s.splitOn " ").toArray.map fun x=>Lean.mkIdent (.mkSimple x)
 let a:=l "SS_nil SS_cons SE_int SE_none SE_bool SE_str SE_bytes SE_bin SE_neg SE_not SE_boolop SE_ifexp ST_not ST_boolop SAll_and SAll_or SAll_and_nil SAll_or_nil SA_nil SX_if SX_ret SJ_nil SJ_int"
 let g:=l "gNm gNm gCm gTc gTv gAc gAs gC0 gCl gCl gCl gFs gJs"
 let b:=l "WE_gc WE_nm WE_cmp WT_cmp WT_val WA_cons WX_as WE_cl0 WE_cl WE_bc WE_tc SE_fstr SJ_str"
 `(tactic| first | (with_reducible first $[| refine $a ?_]*) | (with_reducible first $[| (refine (?_:$g); refine $b ?_)]*) | refine SS_cons ?_)
local macro_rules | `(tactic| walk_at "go")=>`(tactic| repeat (walk_at "s"))
section
variable {c:Ctx} {Φ:Act} {n:Nat} {M M':Loc} {σ:Sto} {Q:KV} {R:KL} {pos:Pos} {k:Nat} {F:KF} {vs:Vars} {sc:Scope}
theorem st_ {x:Str} {v:V} {ss:List Stmt} (h:stK x v vs M some=some M') (q:SS Φ ss M' σ F R):kAs vs M x (kSS Φ ss F R) v σ:=⟨M',stK_ok h,q⟩
theorem SG_n (r:Run Φ n vs sc) {x:Str} {p:Pos} {v:V} {K:KL} (h:stK x v vs M some=some M') (q:K M' σ):SG Φ (assign (.Name x p) Φ.env) v M σ K R:=SG_name r.ok (r.vars▸stK_ok h) q
theorem SG_t (r:Run Φ (n+1) vs sc) {es:List Expr} {kk:Nat} {p:Pos} {a:Addr} {Vs:List V} {K:KL} (e:σ a=some (.tuple Vs)) (h:stsK vs es Vs M some=some M') (q:K M' σ):SG Φ (assign (.Tuple es kk p) Φ.env) (.ref a) M σ K R:=SG_tuple r.ok e (r.vars▸stsK_ok h) q
theorem lkp_get {x:Str} {v:V} {fs:List (Str×V)} (h:lkp x fs=some v):FGet fs x v:=by
 induction fs with
 | nil=>cases h
 | cons y l ih =>
  rcases bif_some (v:=v) (u:=y.2) (o:=lkp x l) h with ⟨e,rfl⟩ | h
  ·rw [of_decide_eq_true e]; exact .head
  ·exact .tail (ih h)
theorem lkp_none {α:Type} {x:Str} {l:List (Str×α)} (h:lkp x l=none):x∉l.map (·.1):=by
 induction l with
 | nil=>exact List.not_mem_nil
 | cons y l ih =>
  have h:(bif decide (x=y.1) then some y.2 else lkp x l)=none:=h
  cases e:decide (x=y.1) with
  | true=>rw [e] at h; cases h
  | false =>
   rw [e] at h
   exact fun hm=>(List.mem_cons.mp hm).elim (of_decide_eq_false e) (ih h)
noncomputable def atV (C:Addr) (s:Str) (fs:List (Str×V)):Option V:=bif has C s fldT then (lkp s fs).bind fun v=>bif isOth v then none else some v else none
theorem at_ (x:Cx Φ.toCtx) {s:Str} {a C:Addr} {fs:List (Str×V)} {v:V} (e:σ a=some (.inst C fs)) (g:atV C s fs=some v) (q:Q v σ):kAt Φ s Q (.ref a) σ:=by
 unfold atV at g
 cases h1:has C s fldT with
 | false=>rw [h1] at g; cases g
 | true =>
  rw [h1] at g
  obtain ⟨u,h2,g⟩:=Option.bind_eq_some_iff.mp g
  cases h3:isOth u with
  | true=>rw [h3] at g; cases g
  | false =>
   rw [h3] at g
   cases g
   exact ⟨_,_,_,_,rfl,e,x.fld h1,lkp_get h2,noth h3,q⟩
noncomputable def fsK {α:Type} (x:Str) (v:V) (fs:List (Str×V)):(List (Str×V)→Option α)→Option α:=@List.rec (Str×V) (fun _=>(List (Str×V)→Option α)→Option α) (fun k=>k [(x,v)]) (fun y fs ih k=>bif decide (x=y.1) then k ((x,v)::fs) else ih fun fs'=>k (y::fs')) fs
theorem fsK_go {α:Type} {x:Str} {v:V} {N:α} {fs:List (Str×V)} {k:List (Str×V)→Option α} (h:fsK x v fs k=some N):∃ fs',(FSet fs x v fs'∨(x∉fs.map (·.1)∧fs'=fs++[(x,v)]))∧k fs'=some N:=by
 induction fs generalizing k with
 | nil=>exact ⟨_,.inr ⟨List.not_mem_nil,rfl⟩,h⟩
 | cons y l ih =>
  have h:(bif decide (x=y.1) then k ((x,v)::l) else fsK x v l fun fs'=>k (y::fs'))=some N:=h
  cases e:decide (x=y.1) with
  | true =>
   rw [e] at h
   obtain rfl:=of_decide_eq_true e
   exact ⟨_,.inl .head,h⟩
  | false =>
   rw [e] at h
   obtain ⟨fs',h1,h2⟩:=ih h
   refine ⟨_,?_,h2⟩
   rcases h1 with h1 | ⟨h1,rfl⟩
   ·exact .inl (.tail h1)
   ·exact .inr ⟨fun hm=>(List.mem_cons.mp hm).elim (of_decide_eq_false e) h1,rfl⟩
noncomputable def saV (C:Addr) (s:Str) (v:V) (fs:List (Str×V)):Option (List (Str×V)):=bif has C s stoT && decide (fs.length≤900) then fsK s v fs some else none
theorem sa_ (x:Cx Φ.toCtx) {s:Str} {v:V} {a C:Addr} {fs fs':List (Str×V)} {ss:List Stmt} (e:σ a=some (.inst C fs)) (g:saV C s v fs=some fs') (q:SS Φ ss M (σ.set a (.inst C fs')) F R):kSa Φ s v M (kSS Φ ss F R) (.ref a) σ:=by
 unfold saV at g
 cases h1:has C s stoT && decide (fs.length≤900) with
 | false=>rw [h1] at g; cases g
 | true =>
  rw [h1] at g
  obtain ⟨h2,h3⟩:=and_of h1
  obtain ⟨fs1,h4,h5⟩:=fsK_go g
  cases h5
  exact ⟨_,_,_,_,rfl,e,x.sto h2,h4,of_decide_eq_true h3,q⟩
theorem Sto.set_set {σ:Sto} {a:Addr} {o o':O}:(σ.set a o).set a o'=σ.set a o':=by funext b; simp only [Sto.set]; split <;> rfl
theorem sas_ (x:Cx Φ.toCtx) {s:Str} {v:V} {a C:Addr} {fs fs':List (Str×V)} {ss:List Stmt} (g:saV C s v fs=some fs') (q:SS Φ ss M (σ.set a (.inst C fs')) F R):kSa Φ s v M (kSS Φ ss F R) (.ref a) (σ.set a (.inst C fs)):=sa_ x Sto.set_same g (by rw [Sto.set_set]; exact q)
noncomputable def metV (C:Addr) (s:Str) (fs:List (Str×V)):Option Addr:=match lkp s fs with
 | some _=>none
 | none=>hasM C s
theorem metV_ok (x:Cx c) {s:Str} {C f:Addr} {fs:List (Str×V)} (g:metV C s fs=some f):MetOk c C s f∧s∉fs.map (·.1):=by
 unfold metV at g
 cases h1:lkp s fs with
 | some _=>rw [h1] at g; cases g
 | none=>rw [h1] at g; exact ⟨x.met g,lkp_none h1⟩
theorem me_ (x:Cx Φ.toCtx) {s:Str} {es:List Expr} {a C f:Addr} {fs:List (Str×V)} (e:σ a=some (.inst C fs)) (g:metV C s fs=some f) (q:SA Φ pos es M σ (kCr Φ.toCtx n f a Q (R M)) R):kMe Φ n pos es s M Q R (.ref a) σ :=
 ⟨_,_,_,_,rfl,e,(metV_ok x g).1,(metV_ok x g).2,q⟩
theorem me0_ (x:Cx Φ.toCtx) {s:Str} {a C f:Addr} {fs:List (Str×V)} {R:Sto→Prop} (e:σ a=some (.inst C fs)) (g:metV C s fs=some f) (q:Call Φ.toCtx n (.ref f) [.ref a] σ Q R):kMe0 Φ n s Q R (.ref a) σ :=
 ⟨_,_,_,_,rfl,e,(metV_ok x g).1,(metV_ok x g).2,q⟩
section
variable {A B p:Prop} [Decidable p] {b:Bool}
theorem if_t (h:p) (q:A):if decide p=true then A else B:=(if_pos (decide_eq_true h)).mpr q
theorem if_f (h:¬p) (q:B):if decide p=true then A else B:=(if_neg fun e=>h (of_decide_eq_true e)).mpr q
theorem if_nt (h:¬p) (q:A):if (!decide p)=true then A else B:=(if_pos (by rw [decide_eq_false h]; rfl)).mpr q
theorem if_nf (h:p) (q:B):if (!decide p)=true then A else B:=(if_neg (by rw [decide_eq_true h]; exact Bool.noConfusion)).mpr q
theorem if_T (q:A) (h:b=true:=by rfl):if b=true then A else B:=(if_pos h).mpr q
theorem if_F (q:B) (h:b=false:=by rfl):if b=true then A else B:=(if_neg (by rw [h]; exact Bool.noConfusion)).mpr q
end
section
variable {c:Ctx} {Φ:Act} {n:Nat} {M M':Loc} {σ:Sto} {Q:KV} {R:KL} {pos:Pos} {k:Nat} {F:KF} {vs:Vars} {sc:Scope}
noncomputable def cmpV (op:CmpOp) (a b:Int):Option Bool:=match op with
 | .Eq=>some (decide (a=b))
 | .NotEq=>some (!decide (a=b))
 | .Lt=>some (decide (a < b))
 | .LtE=>some (decide (a≤b))
 | .Gt=>some (decide (b < a))
 | .GtE=>some (decide (b≤a))
 | _=>none
theorem ct_ {op:CmpOp} {a b:Int} {Q:KB} {z:Bool} (q:Q z σ) (h:cmpV op a b=some z:=by rfl):∀ av bv,er av=.int a→er bv=.int b→SV Φ (compareOp op av bv) M σ (kBV Q) R:=by
 refine cop_int ?_
 cases op <;> cases h <;> exact ⟨_,rfl,q⟩
noncomputable def bopV (op:Operator) (a b:Int):Option Int:=match op with
 | .Add=>some (a+b)
 | .Sub=>some (a-b)
 | .BitOr=>some (Builtin.bitOr a b)
 | _=>none
theorem bo_ {op:Operator} {a b z:Int} (q:Q (.int z) σ) (h:bopV op a b=some z:=by rfl):∀ av bv,er av=.int a→er bv=.int b→SV Φ (binaryOp op av bv) M σ Q R:=by
 refine bop_int ?_ ?_
 ·cases op <;> cases h <;> exact q
 ·intro e; rw [e] at h; cases h
theorem mul_ {a b:Int} (h:IntMulOk a b) (q:Q (.int (a*b)) σ):∀ av bv,er av=.int a→er bv=.int b→SV Φ (binaryOp .Mult av bv) M σ Q R:=bop_int ⟨h,q⟩ fun e=>by cases e
theorem mod_ {a b:Int} (h:0 < b) (q:Q (.int (a%b)) σ):∀ av bv,er av=.int a→er bv=.int b→SV Φ (binaryOp .Mod av bv) M σ Q R:=bop_int ⟨h,q⟩ fun e=>by cases e
theorem div_ {a b:Int} (h:0 < b∧b.natAbs < 1073741824) (q:Q (.int (a / b)) σ):∀ av bv,er av=.int a→er bv=.int b→SV Φ (binaryOp .FloorDiv av bv) M σ Q R:=bop_int ⟨h.1,q⟩ fun _=>h.2
theorem E_sub {o i:Expr} (h:SE Φ o M σ (kSub1 Φ i M Q R) R) (hs:∀ ov iv,subscripted i false ov iv=operate [ov,iv] (getItem ov iv):=by intros; rfl):SE Φ (.Subscript o i pos) M σ Q R:=SE_sub hs h
theorem E_at {o:Expr} {x:Str} (h:SE Φ o M σ (kAt Φ x Q) R) (r:Run Φ n vs sc:=by walk_at "run") (hb:attributeBase o x Φ.env (eval o Φ.env)=eval o Φ.env:=by rfl):SE Φ (.Attribute o x pos) M σ Q R:=SE_attr r.ok hb h
theorem X_sa {o e:Expr} {x:Str} {pos':Pos} (h:SE Φ e M σ (kSa1 Φ o x M F R) R) (r:Run Φ n vs sc:=by walk_at "run") (hsw:swapsWith e (some (.Attribute o x pos')) pos.line Φ.env=pure false:=by rfl):SX Φ (.Assign [.Attribute o x pos'] e pos) M σ F R:=SX_setattr r.ok hsw h
theorem E_app {o e:Expr} {es:List Expr} {apos:Pos} {pl:Sem Bool} (h:SE Φ o M σ (kLm Φ pos (e::es) (.builtin "list.append") M Q R) R) (r:Run Φ n vs sc:=by walk_at "run")
  (hm:eval (.Call (.Attribute o (Str.ofString "append") apos) (e::es) [] pos) Φ.env=(do
   let ov ← eval o Φ.env
   standAt apos.atName
   let (f,first) ← holding [ov] (getMethod ov (Str.ofString "append") pl)
   callWith pos f first (backTo pos (starEach (e::es) Φ.env)) []):=by rfl)
  (he:starEach (e::es) Φ.env=(false,eval e Φ.env)::starEach es Φ.env:=by rfl) (hplain:(backTo pos (starEach es Φ.env)).any (·.1)=false:=by rfl) :
  SE Φ (.Call (.Attribute o (Str.ofString "append") apos) (e::es) [] pos) M σ Q R:=SE_lmeth r.ok slot_list_append rfl hm he hplain h
theorem X_ex {e:Expr} (h:SE Φ e M σ (kNx F M) R) (r:RunF Φ n vs sc:=by assumption) (hs:swapsWith e none pos.line Φ.env=pure false:=by rfl):SX Φ (.Expr e pos) M σ F R:=SX_expr' r.inter hs h
theorem X_for {target iter:Expr} {body:List Stmt} (h:SE Φ iter M σ (kFor Φ target body F R M) R) (r:RunF Φ (n+1) vs sc:=by assumption) (ht:plainT target=true:=by rfl) (hf:∀ x,foldedSetIterable iter Φ.env x=pure x:=by intros; rfl) :
  SX Φ (.For target iter body [] pos) M σ F R:=SX_for_list r.ok r.comp ht hf h
theorem X_forr {target e:Expr} {body:List Stmt} {np rp:Pos} (h:SE Φ e M σ (kRg Φ target body F R M) R) (r:RunF Φ (n+1) vs sc:=by assumption) (ht:isNameT target=true:=by rfl)
  (hx:decide (((Str.ofString "range"),NameKind.globalImplicit)∈sc.names)=true:=by walk_at "dk") (he:starEach [e] Φ.env=[(false,eval e Φ.env)]:=by rfl)
  (hf:∀ x,foldedSetIterable (.Call (.Name (Str.ofString "range") np) [e] [] rp) Φ.env x=pure x:=by intros; rfl) :
  SX Φ (.For target (.Call (.Name (Str.ofString "range") np) [e] [] rp) body [] pos) M σ F R:=SX_for_range1 r.ok r.comp ht (by rw [r.scope]; exact of_decide_eq_true hx) (r.cx.gb rfl) he hf h
theorem X_forr2 {target e e':Expr} {body:List Stmt} {np rp:Pos} (h:SE Φ e M σ (kRg1 Φ target e' body F R M) R) (r:RunF Φ (n+1) vs sc:=by assumption) (ht:isNameT target=true:=by rfl)
  (hx:decide (((Str.ofString "range"),NameKind.globalImplicit)∈sc.names)=true:=by walk_at "dk") (he:starEach [e,e'] Φ.env=(false,eval e Φ.env)::starEach [e'] Φ.env:=by rfl) (he':starEach [e'] Φ.env=[(false,eval e' Φ.env)]:=by rfl)
  (hf:∀ x,foldedSetIterable (.Call (.Name (Str.ofString "range") np) [e,e'] [] rp) Φ.env x=pure x:=by intros; rfl) :
  SX Φ (.For target (.Call (.Name (Str.ofString "range") np) [e,e'] [] rp) body [] pos) M σ F R:=SX_for_range2 r.ok r.comp ht (by rw [r.scope]; exact of_decide_eq_true hx) (r.cx.gb rfl) he he' hf h
end
end
section
variable {c:Ctx} {n:Nat} {σ:Sto} {Q:KV} {R:Sto→Prop}
theorem ok_user_of (x:Cx c) {b:Array UInt8} (h8:8≤b.size) (hb:b.size≤1000) (q:Q (.bytes (b.toList.take (b.size-8)).toArray) σ):Call c (n+1) (.ref 138) [.bytes b] σ Q R:=by
 refine Call.go x (fn_user_of x) fun Φ r=>?_
 walk_at "go"
 refine b_len_bytes (by (revert h8 hb; lia)) ?_
 walk_at "go"
 refine cop_int ?_
 refine ⟨_,rfl,?_⟩
 refine ite_neg (by simp; (revert h8 hb; lia)) ?_
 walk_at "s"
 walk_at "go"
 refine SE_bslice_upto (by intros; rfl) ?_
 walk_at "go"
 refine b_len_bytes (by (revert h8 hb; lia)) ?_
 walk_at "go"
 refine bop_int ?_ (by simp)
 refine ⟨_,_,rfl,rfl,by (revert h8 hb; lia),by lia,by (revert h8 hb; lia),?_⟩
 walk_at "go"
 refine c_bytes_bytes ?_
 have:((b.size:Int)-8).toNat=b.size-8:=by lia
 rw [this]
 exact q
noncomputable def byteI (b:Array UInt8) (k:Nat):Int:=((b.getD k 0).toNat:Int)
theorem byte_at {b:Array UInt8} {k:Int} (h0:0≤k) (h1:k < b.size) (hb:b.size≤1000):Sub σ (.bytes b) (.int k) (.int (byteI b k.toNat)):=by
 refine Sub.bytes h0 (by (revert h1 hb; lia)) (by (revert hb; lia)) ?_
 have:k.toNat < b.size:=by (revert h0 h1; lia)
 simp [Array.getD,this]
theorem byteI_nn (b:Array UInt8) (k:Nat):0≤byteI b k:=by unfold byteI; lia
theorem byteI_lt (b:Array UInt8) (k:Nat):byteI b k < 256:=by unfold byteI; have:=(b.getD k 0).toNat_lt; (revert this; lia)
noncomputable def rd32 (b:Array UInt8) (k:Nat):Int:=Builtin.bitOr (Builtin.bitOr (Builtin.bitOr (byteI b k) (byteI b (k+1)*2 ^ 8)) (byteI b (k+2)*2 ^ 16)) (byteI b (k+3)*2 ^ 24)
theorem ok_read_fixed32 (x:Cx c) {b:Array UInt8} {k:Nat} (h8:k+4≤b.size) (hb:b.size≤1000) (q:Q (.int (rd32 b k)) σ):Call c (n+1) (.ref 103) [.bytes b,.int k] σ Q R:=by
 refine Call.go x (fn_read_fixed32 x) fun Φ r=>?_
 have e1:((k:Int)+1).toNat=k+1:=by lia
 have e2:((k:Int)+2).toNat=k+2:=by lia
 have e3:((k:Int)+3).toNat=k+3:=by lia
 have l0:=byteI_lt b k
 have l1:=byteI_lt b (k+1)
 have l2:=byteI_lt b (k+2)
 have l3:=byteI_lt b (k+3)
 have n1:=byteI_nn b (k+1)
 have n2:=byteI_nn b (k+2)
 have n3:=byteI_nn b (k+3)
 walk_at "go"
 refine ct_ ?_
 refine if_F ?_
 walk_at "go"
 refine bo_ ?_
 walk_at "go"
 refine b_len_bytes (by (revert hb; lia)) ?_
 refine ct_ ?_
 refine ite_neg (by simp; (revert h8 e1 e2 e3; lia)) ?_
 walk_at "go"
 refine if_F ?_
 walk_at "s"
 walk_at "go"
 refine E_sub ?_
 walk_at "go"
 refine ⟨_,byte_at (by (revert e1 e2 e3; lia)) (by (revert h8 e1 e2 e3; lia)) hb,?_⟩
 rw [Int.toNat_natCast]
 walk_at "go"
 refine E_sub ?_
 walk_at "go"
 refine bop_int ⟨_,byte_at (by (revert e1 e2 e3; lia)) (by (revert h8 e1 e2 e3; lia)) hb,?_⟩ (by simp)
 rw [e1]
 walk_at "go"
 refine bop_int ⟨⟨by lia,by lia,by (revert l1 n1; lia)⟩,?_⟩ (by simp)
 refine bo_ ?_
 walk_at "go"
 refine E_sub ?_
 walk_at "go"
 refine bop_int ⟨_,byte_at (by (revert e1 e2 e3; lia)) (by (revert h8 e1 e2 e3; lia)) hb,?_⟩ (by simp)
 rw [e2]
 walk_at "go"
 refine bop_int ⟨⟨by lia,by lia,by (revert l2 n2; lia)⟩,?_⟩ (by simp)
 refine bo_ ?_
 walk_at "go"
 refine E_sub ?_
 walk_at "go"
 refine bop_int ⟨_,byte_at (by (revert e1 e2 e3; lia)) (by (revert h8 e1 e2 e3; lia)) hb,?_⟩ (by simp)
 rw [e3]
 walk_at "go"
 refine bop_int ⟨⟨by lia,by lia,by (revert l3 n3; lia)⟩,?_⟩ (by simp)
 refine bo_ ?_
 exact q
noncomputable def rd64 (b:Array UInt8) (k:Nat):Int:=Builtin.bitOr (rd32 b k) (rd32 b (k+4)*2 ^ 32)
theorem ok_read_fixed64 (x:Cx c) {b:Array UInt8} {k:Nat} (h8:k+8≤b.size) (hb:b.size≤1000) (hz:(rd32 b (k+4)).natAbs < 2 ^ 64) (q:Q (.int (rd64 b k)) σ):Call c (n+2) (.ref 110) [.bytes b,.int k] σ Q R:=by
 refine Call.go x (fn_read_fixed64 x) fun Φ r=>?_
 walk_at "go"
 refine ct_ ?_
 refine if_F ?_
 walk_at "go"
 refine bo_ ?_
 walk_at "go"
 refine b_len_bytes (by (revert hb; lia)) ?_
 refine ct_ ?_
 refine ite_neg (by simp; (revert h8; lia)) ?_
 walk_at "go"
 refine if_F ?_
 walk_at "s"
 walk_at "go"
 refine ok_read_fixed32 r.cx (by (revert h8; lia)) hb ?_
 walk_at "go"
 refine bo_ ?_
 walk_at "go"
 rw [show (k:Int)+4=((k+4:Nat):Int) by lia]
 refine ok_read_fixed32 r.cx (by (revert h8; lia)) hb ?_
 walk_at "go"
 refine bop_int ⟨⟨by lia,by lia,hz⟩,?_⟩ (by simp)
 refine bo_ ?_
 exact q
theorem ok_tag_of (x:Cx c) {b:Array UInt8} (h8:8≤b.size) (hb:b.size≤1000) (hz:(rd32 b (b.size-8+4)).natAbs < 2 ^ 64) (q:Q (.int (rd64 b (b.size-8))) σ):Call c (n+3) (.ref 145) [.bytes b] σ Q R:=by
 refine Call.go x (fn_tag_of x) fun Φ r=>?_
 walk_at "go"
 refine b_len_bytes (by (revert hb; lia)) ?_
 walk_at "go"
 refine ct_ ?_
 refine ite_neg (by simp; (revert h8 hb; lia)) ?_
 walk_at "s"
 walk_at "go"
 refine b_len_bytes (by (revert hb; lia)) ?_
 walk_at "go"
 refine bo_ ?_
 walk_at "go"
 rw [show (b.size:Int)-8=((b.size-8:Nat):Int) by (revert h8 hb; lia)]
 refine ok_read_fixed64 r.cx (by (revert h8 hb; lia)) hb hz ?_
 exact q
noncomputable def ordI (a b:Array UInt8):Int:=match Builtin.Bytes.order a.toList b.toList with | .lt=>-1 | .eq=>0 | .gt=>1
theorem ok_Order_compare (x:Cx c) {v:V} {a b:Array UInt8} (q:Q (.int (ordI a b)) σ):Call c (n+1) (.ref 159) [v,.bytes a,.bytes b] σ Q R:=by
 refine Call.go x (fn_Order_compare x) fun Φ r=>?_
 walk_at "go"
 refine cop_bytes ?_
 refine ⟨_,rfl,?_⟩
 by_cases h1:Builtin.Bytes.order a.toList b.toList=.lt
 ·refine ite_pos (by rw [h1]; rfl) ?_
  walk_at "go"
  refine ⟨_,rfl,?_⟩
  unfold ordI at q; rw [h1] at q
  exact q
 ·refine if_f h1 ?_
  walk_at "s"
  walk_at "go"
  refine cop_bytes ?_
  refine ⟨_,rfl,?_⟩
  by_cases h2:Builtin.Bytes.order a.toList b.toList=.gt
  ·refine ite_pos (by rw [h2]; rfl) ?_
   walk_at "go"
   unfold ordI at q; rw [h2] at q
   exact q
  ·refine if_f h2 ?_
   walk_at "s"
   walk_at "go"
   have h3:Builtin.Bytes.order a.toList b.toList=.eq:=by cases h:Builtin.Bytes.order a.toList b.toList <;> simp_all
   unfold ordI at q; rw [h3] at q
   exact q
end
structure At (σ W:Sto) (H:List (Addr×O)):Prop where
 le:W.le σ
 has:∀ p∈H,σ p.1=some p.2
 off:∀ p∈H,W p.1=none
 nd:(H.map (·.1)).Nodup
section
variable {σ σ' W W':Sto} {H H':List (Addr×O)} {a:Addr} {o o':O}
theorem At.get (x:At σ W H) (h:(a,o)∈H):σ a=some o:=x.has _ h
theorem At.fz (x:At σ W H) (h:W a=some o):σ a=some o:=x.le _ _ h
theorem At.perm (x:At σ W H) (p:H.Perm H'):At σ W H':=⟨x.le,fun q hq=>x.has q (p.mem_iff.mpr hq),fun q hq=>x.off q (p.mem_iff.mpr hq),(p.map _).nodup_iff.mp x.nd⟩
theorem At.sub (x:At σ W H) (p:H'.Sublist H):At σ W H':=⟨x.le,fun q hq=>x.has q (p.subset hq),fun q hq=>x.off q (p.subset hq),x.nd.sublist (p.map _)⟩
theorem At.Wnone (x:At σ W H) (h:σ a=none):W a=none:=by
 cases e:W a with
 | none=>rfl
 | some o=>rw [x.le _ _ e] at h; cases h
theorem At.new (x:At σ W H) (h:σ a=none):At (σ.set a o) W ((a,o)::H):=by
 have hn:∀ p∈H,p.1≠a:=fun p hp q=>by have:=x.has p hp; rw [q,h] at this; cases this
 refine ⟨Sto.le_trans x.le (Sto.le_set h),fun p hp=>?_,fun p hp=>?_,?_⟩
 ·rcases List.mem_cons.mp hp with rfl | hp
  ·exact Sto.set_same
  ·rw [Sto.set_ne (hn p hp)]; exact x.has p hp
 ·rcases List.mem_cons.mp hp with rfl | hp
  ·exact x.Wnone h
  ·exact x.off p hp
 ·rw [List.map_cons,List.nodup_cons]
  refine ⟨fun q=>?_,x.nd⟩
  obtain ⟨p,hp,e⟩:=List.mem_map.mp q
  exact hn p hp e
theorem At.upd (x:At σ W ((a,o)::H)):At (σ.set a o') W ((a,o')::H):=by
 have nd:=x.nd
 rw [List.map_cons,List.nodup_cons] at nd
 have hn:∀ p∈H,p.1≠a:=fun p hp q=>nd.1 (List.mem_map.mpr ⟨p,hp,q⟩)
 refine ⟨fun b o1 e=>?_,fun p hp=>?_,fun p hp=>?_,x.nd⟩
 ·rw [Sto.set_ne (fun q=>by rw [q,x.off _ (.head _)] at e; cases e)]; exact x.le _ _ e
 ·rcases List.mem_cons.mp hp with rfl | hp
  ·exact Sto.set_same
  ·rw [Sto.set_ne (hn p hp)]; exact x.has p (.tail _ hp)
 ·rcases List.mem_cons.mp hp with rfl | hp
  ·exact x.off (a,o) (.head _)
  ·exact x.off p (.tail _ hp)
theorem At.freeze (x:At σ W ((a,o)::H)):At σ (W.set a o) H:=by
 have nd:=x.nd
 rw [List.map_cons,List.nodup_cons] at nd
 have hn:∀ p∈H,p.1≠a:=fun p hp q=>nd.1 (List.mem_map.mpr ⟨p,hp,q⟩)
 refine ⟨fun b o1 e=>?_,fun p hp=>x.has p (.tail _ hp),fun p hp=>?_,nd.2⟩
 ·by_cases q:b=a
  ·subst q; rw [Sto.set_same] at e; cases e; exact x.has _ (.head _)
  ·rw [Sto.set_ne q] at e; exact x.le _ _ e
 ·rw [Sto.set_ne (hn p hp)]; exact x.off p (.tail _ hp)
theorem At.fle (x:At σ W ((a,o)::H)):W.le (W.set a o):=Sto.le_set (x.off _ (.head _))
theorem At.newF (x:At σ W H) (h:σ a=none):At (σ.set a o) (W.set a o) H:=(x.new h).freeze
theorem At.newle (x:At σ W H) (h:σ a=none):W.le (W.set a o):=Sto.le_set (x.Wnone h)
theorem At.here (W:Sto):At W W []:=⟨Sto.le_refl _,fun p hp=>nm hp,fun p hp=>nm hp,List.nodup_nil⟩
end
structure Mt where
 n:Int
 s:Int
 lo:Int×Int
 hi:Int×Int
noncomputable def endD (p:Int×Int):D:=.tup [.int p.1,.int p.2]
noncomputable def mtD (m:Mt):D:=.tup [.int m.n,.int m.s,endD m.lo,endD m.hi]
structure Wd where
 k:Int
 l:Int
 n:Int
 m:Option Mt
noncomputable def omD:Option Mt→D
 | none=>.none
 | some m=>mtD m
noncomputable def wdD (w:Wd):D:=.tup [.int w.k,.int w.l,.int w.n,omD w.m]
noncomputable def users:List (List UInt8):=[[],[97],[97,0],[97,98],[98],[98,255],[99],[255]]
noncomputable def key (p:Int×Int):Array UInt8:=(users.getD p.1.toNat []).toArray++byteArr [1,0-p.2,0,0,0,0,0,0]
noncomputable def fmF (m:Mt):List (Str×V):=[(Str.ofString "number",.int m.n),(Str.ofString "size",.int m.s),(Str.ofString "smallest",.bytes (key m.lo)),(Str.ofString "largest",.bytes (key m.hi))]
noncomputable def fmD (m:Mt):D:=.obj 340 (fmF m)
noncomputable def EndOk (p:Int×Int):Prop:=0≤p.1∧p.1 < 8∧-9≤p.2∧p.2≤0
structure MtOk (m:Mt):Prop where
 lo:EndOk m.lo
 hi:EndOk m.hi
 n0:0≤m.n
 n1:m.n < 1000
 s0:0≤m.s
 s1:m.s < 1000
theorem key_size {p:Int×Int} (h:EndOk p):8≤(key p).size∧(key p).size≤1000∧(key p).size-8=(users.getD p.1.toNat []).length:=by
 obtain ⟨h0,h1,h2,h3⟩:=h
 have e:(key p).size=(users.getD p.1.toNat []).length+8:=by simp [key,byteArr]
 have:p.1.toNat < 8:=by (revert h0 h1; lia)
 have h:(users.getD p.1.toNat []).length≤2:=by
  generalize p.1.toNat=k at this
  revert k; decide
 (revert e h; lia)
noncomputable def cmpE (p q:Int×Int):Int:=if p.1 < q.1 then -1 else if q.1 < p.1 then 1 else if p.2 < q.2 then -1 else if q.2 < p.2 then 1 else 0
theorem key_user {p:Int×Int} (h:EndOk p):((key p).toList.take ((key p).size-8)).toArray=(users.getD p.1.toNat []).toArray:=by
 rw [(key_size h).2.2]
 simp [key]
theorem user_ord:∀ i j:Fin 8,Builtin.Bytes.order (users.getD i.val []) (users.getD j.val [])=if i.val < j.val then .lt else if j.val < i.val then .gt else .eq:=by decide
theorem end_cases {p:Int×Int} (h:EndOk p):∃ i:Fin 8,∃ e:Fin 10,p=((i.val:Int),-(e.val:Int)):=by
 obtain ⟨h0,h1,h2,h3⟩:=h
 refine ⟨⟨p.1.toNat,by (revert h0 h1; lia)⟩,⟨(-p.2).toNat,by (revert h2 h3; lia)⟩,?_⟩
 obtain ⟨a,b⟩:=p
 simp only [Prod.mk.injEq] at *
 exact ⟨by (revert h0 h1; lia),by (revert h2 h3; lia)⟩
theorem key_tag {p:Int×Int} (h:EndOk p):rd64 (key p) ((key p).size-8)=1+256*(-p.2)∧(rd32 (key p) ((key p).size-8+4)).natAbs < 2 ^ 64:=by
 obtain ⟨i,e,rfl⟩:=end_cases h
 clear h
 revert e
 revert i
 decide +kernel
section
variable {c:Ctx} {n:Nat} {σ W:Sto} {Q:KV} {R:Sto→Prop}
noncomputable def OrdAt (σ:Sto) (io:Addr):Prop:=∃ uo,σ io=some (.inst 272 [(Str.ofString "user_order",.ref uo)])∧σ uo=some (.inst 218 [])
theorem OrdAt.mono {σ σ':Sto} {io:Addr} (l:σ.le σ') (h:OrdAt σ io):OrdAt σ' io:=let ⟨uo,a,b⟩:=h; ⟨uo,l _ _ a,l _ _ b⟩
theorem ok_IO_compare (x:Cx c) {io:Addr} {p q:Int×Int} (ho:OrdAt σ io) (hp:EndOk p) (hq:EndOk q) (k:Q (.int (cmpE p q)) σ):Call c (n+4) (.ref 241) [.ref io,.bytes (key p),.bytes (key q)] σ Q R:=by
 obtain ⟨uo,h1,h2⟩:=ho
 refine Call.go x (fn_InternalOrder_compare x) fun Φ r=>?_
 obtain ⟨kp1,kp2,kp3⟩:=key_size hp
 obtain ⟨kq1,kq2,kq3⟩:=key_size hq
 walk_at "go"
 refine SE_meth r.ok rfl rfl rfl ?_
 refine E_at ?_
 walk_at "go"
 refine at_ r.cx h1 rfl ?_
 refine me_ r.cx h2 rfl ?_
 walk_at "go"
 refine ok_user_of r.cx kp1 kp2 ?_
 walk_at "go"
 refine ok_user_of r.cx kq1 kq2 ?_
 walk_at "go"
 refine ok_Order_compare r.cx ?_
 rw [key_user hp,key_user hq]
 have hp0:=hp.1
 have hq0:=hq.1
 have hord:ordI (users.getD p.1.toNat []).toArray (users.getD q.1.toNat []).toArray=if p.1 < q.1 then -1 else if q.1 < p.1 then 1 else 0:=by
  have:=user_ord ⟨p.1.toNat,by (refine' (?_:_→_→_) hp0 hp.2.1; lia)⟩ ⟨q.1.toNat,by (refine' (?_:_→_→_) hq0 hq.2.1; lia)⟩
  unfold ordI
  rw [this]
  by_cases a1:p.1 < q.1
  ·have:p.1.toNat < q.1.toNat:=by (refine' (?_:_→_→_→_) hp0 a1 hq0; lia)
   simp [a1,this]
  ·by_cases a2:q.1 < p.1
   ·have b1:¬ p.1.toNat < q.1.toNat:=by (refine' (?_:_→_→_→_) hp0 a2 hq0; lia)
    have b2:q.1.toNat < p.1.toNat:=by (refine' (?_:_→_→_→_) hp0 a2 hq0; lia)
    simp [a1,a2,b1,b2]
   ·have b1:¬ p.1.toNat < q.1.toNat:=by (refine' (?_:_→_→_→_→_) hp0 a1 a2 hq0; lia)
    have b2:¬ q.1.toNat < p.1.toNat:=by (refine' (?_:_→_→_→_→_) hp0 a1 a2 hq0; lia)
    simp [a1,a2,b1,b2]
 rw [hord]
 refine st_ rfl ?_
 walk_at "go"
 refine ct_ ?_
 obtain ⟨tp,zp⟩:=key_tag hp
 obtain ⟨tq,zq⟩:=key_tag hq
 by_cases a0:(if p.1 < q.1 then -1 else if q.1 < p.1 then 1 else 0:Int)=0
 ·refine ite_neg (by rw [a0]; simp) ?_
  walk_at "s"
  walk_at "go"
  refine ok_tag_of r.cx kp1 kp2 zp ?_
  refine st_ rfl ?_
  walk_at "go"
  refine ok_tag_of r.cx kq1 kq2 zq ?_
  refine st_ rfl ?_
  walk_at "go"
  refine ct_ ?_
  have h01:¬ p.1 < q.1:=fun h=>by rw [if_pos h] at a0; cases a0
  have h02:¬ q.1 < p.1:=fun h=>by rw [if_neg h01,if_pos h] at a0; cases a0
  rw [tp,tq]
  unfold cmpE at k
  rw [if_neg h01,if_neg h02] at k
  by_cases a1:p.2 < q.2
  ·refine ite_pos (by simp; (revert a1; lia)) ?_
   walk_at "go"
   refine ⟨_,rfl,?_⟩
   rw [if_pos a1] at k
   exact k
  ·refine ite_neg (by simp; (revert a1; lia)) ?_
   rw [if_neg a1] at k
   walk_at "s"
   walk_at "go"
   refine ct_ ?_
   by_cases a2:q.2 < p.2
   ·refine ite_pos (by simp; (revert a2; lia)) ?_
    rw [if_pos a2] at k
    walk_at "go"
    exact k
   ·refine ite_neg (by simp; (revert a1 a2; lia)) ?_
    rw [if_neg a2] at k
    walk_at "s"
    walk_at "go"
    exact k
 ·refine if_nt a0 ?_
  walk_at "go"
  unfold cmpE at k
  by_cases a1:p.1 < q.1
  ·rw [if_pos a1] at k ⊢; exact k
  ·rw [if_neg a1] at k ⊢ a0
   by_cases a2:q.1 < p.1
   ·rw [if_pos a2] at k ⊢; exact k
   ·rw [if_neg a2] at a0; exact absurd rfl a0
end
section
variable {c:Ctx} {n:Nat} {σ W:Sto} {Q:KV} {R:Sto→Prop}
theorem ok_FileMeta (x:Cx c) {a b:V} {d e:V} (q:∀ m,σ m=none→Q (.ref m) (σ.set m (.inst 340 [(Str.ofString "number",a),(Str.ofString "size",b),(Str.ofString "smallest",d),(Str.ofString "largest",e)]))) :
  Call c (n+2) (.ref 340) [a,b,d,e] σ Q R:=by
 refine Call.make (x.cls rfl) fun m hm=>?_
 refine Call.go x (fn_FileMeta___init__ x) fun Φ r=>?_
 walk_at "s"
 refine X_sa ?_
 walk_at "go"
 refine sa_ r.cx Sto.set_same rfl ?_
 rw [Sto.set_set]
 walk_at "s"
 refine X_sa ?_
 walk_at "go"
 refine sa_ r.cx Sto.set_same rfl ?_
 rw [Sto.set_set]
 walk_at "s"
 refine X_sa ?_
 walk_at "go"
 refine sa_ r.cx Sto.set_same rfl ?_
 rw [Sto.set_set]
 walk_at "s"
 refine X_sa ?_
 walk_at "go"
 refine sa_ r.cx Sto.set_same rfl ?_
 rw [Sto.set_set]
 walk_at "s"
 exact ⟨rfl,q m hm⟩
theorem ok_FileMeta_row (x:Cx c) {a:Addr} {m:Mt} (h:σ a=some (.inst 340 (fmF m))) (q:∀ t,σ t=none→Q (.ref t) (σ.set t (.tuple [.int m.n,.int m.s,.bytes (key m.lo),.bytes (key m.hi)]))) :
  Call c (n+1) (.ref 337) [.ref a] σ Q R:=by
 refine Call.go x (fn_FileMeta_row x) fun Φ r=>?_
 unfold fmF at h
 walk_at "go"
 refine SE_tuple (by simp) ?_
 walk_at "go"
 refine E_at ?_
 walk_at "go"
 refine at_ r.cx h rfl ?_
 walk_at "go"
 refine E_at ?_
 walk_at "go"
 refine at_ r.cx h rfl ?_
 walk_at "go"
 refine E_at ?_
 walk_at "go"
 refine at_ r.cx h rfl ?_
 walk_at "go"
 refine E_at ?_
 walk_at "go"
 refine at_ r.cx h rfl ?_
 walk_at "go"
 exact ⟨by simp,q⟩
theorem users_at (k:Nat) (h:k < 8):([V.bytes #[],V.bytes #[97],V.bytes #[97,0],V.bytes #[97,98],V.bytes #[98],V.bytes #[98,255],V.bytes #[99],V.bytes #[255]]:List V)[k]?=some (V.bytes (users.getD k []).toArray):=by
 have hk:k < users.length:=h
 show (users.map fun l=>V.bytes l.toArray)[k]?=_
 rw [List.getElem?_map,List.getD_eq_getElem?_getD,List.getElem?_eq_getElem hk]; rfl
theorem ok_law_ikey (x:Cx c) {H:List (Addr×O)} (A:At σ W H) {a:Addr} {p:Int×Int} (hp:EndOk p) (h:σ a=some (.tuple [.int p.1,.int p.2])) (q:∀ σ',At σ' W H→σ.le σ'→Q (.bytes (key p)) σ') :
  Call c (n+2) (.ref 554) [.ref a] σ Q R:=by
 refine Call.go x (fn__law_ikey x) fun Φ r=>?_
 walk_at "go"
 refine E_sub ?_
 refine SE_tuple (by simp) ?_
 walk_at "go"
 refine ⟨by simp,fun t ht=>?_⟩
 have A1:=A.new (o:=.tuple [.bytes #[],.bytes #[97],.bytes #[97,0],.bytes #[97,98],.bytes #[98],.bytes #[98,255],.bytes #[99],.bytes #[255]]) ht
 have l1:=Sto.le_set (o:=.tuple [.bytes #[],.bytes #[97],.bytes #[97,0],.bytes #[97,98],.bytes #[98],.bytes #[98,255],.bytes #[99],.bytes #[255]]) ht
 refine E_sub ?_
 walk_at "go"
 refine ⟨.int p.1,.tuple (l1 _ _ h) (by lia) (by lia) rfl,?_⟩
 have p0:=hp.1
 have p1:=hp.2.1
 have p2:=hp.2.2.1
 have p3:=hp.2.2.2
 refine ⟨.bytes (users.getD p.1.toNat []).toArray,.tuple Sto.set_same (by (revert p0; lia)) (by (revert p0 p1; lia)) ?_,?_⟩
 ·exact users_at _ (by (revert p0 p1; lia))
 refine st_ rfl ?_
 walk_at "go"
 refine SE_list ?_
 walk_at "go"
 refine E_sub ?_
 walk_at "go"
 refine ⟨.int p.2,.tuple (l1 _ _ h) (by lia) (by lia) rfl,?_⟩
 refine bo_ ?_
 walk_at "go"
 refine ⟨by simp,fun t' ht'=>?_⟩
 walk_at "go"
 refine c_bytes_list (r.ok.hand (Nat.succ_ne_zero _)) (ns:=[1,0-p.2,0,0,0,0,0,0]) Sto.set_same (by intro z hz; simp at hz; (revert p2 p3 hz; lia)) (by simp) ?_
 refine bop_bytes ?_
 have A2:=A1.new (o:=.list [.int 1,.int (0-p.2),.int 0,.int 0,.int 0,.int 0,.int 0,.int 0]) ht'
 have l2:=Sto.le_set (o:=.list [.int 1,.int (0-p.2),.int 0,.int 0,.int 0,.int 0,.int 0,.int 0]) ht'
 refine ⟨?_,q _ ((A2.sub (List.sublist_cons_self _ _)).sub (List.sublist_cons_self _ _)) (Sto.le_trans l1 l2)⟩
 have:=(key_size hp).2.1
 simp only [key] at this
 simpa using this
end
section
variable {c:Ctx} {n:Nat} {σ W:Sto} {Q:KV} {R:Sto→Prop} {H:List (Addr×O)}
theorem rep_end {p:Int×Int} {v:V}:Rep σ (endD p) v↔∃ a,v=.ref a∧σ a=some (.tuple [.int p.1,.int p.2]):=by
 constructor
 ·rintro ⟨a,vs,rfl,h,v1,w1,rfl,rfl,v2,w2,rfl,rfl,rfl⟩; exact ⟨a,rfl,h⟩
 ·rintro ⟨a,rfl,h⟩; exact ⟨a,_,rfl,h,_,_,rfl,rfl,_,_,rfl,rfl,rfl⟩
theorem rep_mt {m:Mt} {v:V}:Rep σ (mtD m) v↔∃ a l h,v=.ref a∧σ a=some (.tuple [.int m.n,.int m.s,.ref l,.ref h])∧σ l=some (.tuple [.int m.lo.1,.int m.lo.2])∧σ h=some (.tuple [.int m.hi.1,.int m.hi.2]):=by
 simp only [mtD,Rep,Reps,rep_end]
 constructor
 ·rintro ⟨a,vs,rfl,h,v1,w1,rfl,rfl,v2,w2,rfl,rfl,v3,w3,rfl,⟨l,rfl,hl⟩,v4,w4,rfl,⟨h',rfl,hh⟩,rfl⟩; exact ⟨a,l,h',rfl,h,hl,hh⟩
 ·rintro ⟨a,l,h',rfl,h,hl,hh⟩; exact ⟨a,_,rfl,h,_,_,rfl,rfl,_,_,rfl,rfl,_,_,rfl,⟨l,rfl,hl⟩,_,_,rfl,⟨h',rfl,hh⟩,rfl⟩
theorem ok_law_meta (x:Cx c) (A:At σ W H) {lv v:V} {m:Mt} (hm:MtOk m) (hr:Rep W (mtD m) v)
  (q:∀ σ' W' t fm,W.le W'→At σ' W' H→W' t=some (.tuple [lv,.ref fm])→W' fm=some (.inst 340 (fmF m))→Q (.ref t) σ'):Call c (n+3) (.ref 602) [lv,v] σ Q R:=by
 obtain ⟨a,l,h,rfl,ha,hl,hh⟩:=rep_mt.mp hr
 refine Call.go x (fn__law_meta x) fun Φ r=>?_
 walk_at "go"
 refine SE_tuple (by simp) ?_
 walk_at "go"
 refine E_sub ?_
 walk_at "go"
 refine ⟨_,.tuple (A.fz ha) (by lia) (by lia) rfl,?_⟩
 walk_at "go"
 refine E_sub ?_
 walk_at "go"
 refine ⟨_,.tuple (A.fz ha) (by lia) (by lia) rfl,?_⟩
 walk_at "go"
 refine E_sub ?_
 walk_at "go"
 refine ⟨_,.tuple (A.fz ha) (by lia) (by lia) rfl,?_⟩
 walk_at "go"
 refine ok_law_ikey r.cx A hm.lo (A.fz hl) fun σ₁ A1 l1=>?_
 walk_at "go"
 refine E_sub ?_
 walk_at "go"
 refine ⟨_,.tuple (A1.fz ha) (by lia) (by lia) rfl,?_⟩
 walk_at "go"
 refine ok_law_ikey r.cx A1 hm.hi (A1.fz hh) fun σ₂ A2 l2=>?_
 walk_at "go"
 refine ok_FileMeta r.cx fun fm hfm=>?_
 walk_at "go"
 refine ⟨by simp,fun t ht=>?_⟩
 have A3:=A2.newF (o:=.inst 340 (fmF m)) hfm
 have A4:=A3.newF (o:=.tuple [lv,.ref fm]) ht
 have hne:fm≠t:=fun e=>by rw [e,Sto.set_same] at ht; cases ht
 refine q _ _ t fm (Sto.le_trans (A2.newle hfm) (A3.newle ht)) A4 Sto.set_same ?_
 rw [Sto.set_ne hne,Sto.set_same]
noncomputable def draw (ns:List Int) (i:Int):Int:=ns.getD (i%ns.length).toNat 0+7919*(i / ns.length)
theorem ok_law_draw (x:Cx c) {a:Addr} {ns:List Int} {i:Int} (h:σ a=some (.list (ns.map V.int))) (h0:0 < ns.length) (h1:ns.length < 1000) (hi:0≤i) (q:Q (.int (draw ns i)) σ):Call c (n+1) (.ref 547) [.ref a,.int i] σ Q R:=by
 refine Call.go x (fn__law_draw x) fun Φ r=>?_
 have e1:=Int.emod_nonneg i (show (ns.length:Int)≠0 by (revert h0 h1; lia))
 have e2:=Int.emod_lt_of_pos i (show (0:Int) < ns.length by (revert h0 h1; lia))
 walk_at "go"
 refine E_sub ?_
 walk_at "go"
 refine b_len_list h (by simp; (revert h0 h1; lia)) ?_
 refine bop_int ?_ (by simp)
 refine ⟨by simp; (revert h0; lia),?_⟩
 simp only [List.length_map]
 refine ⟨.int (ns.getD (i%ns.length).toNat 0),.list h e1 (by (revert h0 h1 e2; lia)) ?_,?_⟩
 ·rw [List.getElem?_map,List.getElem?_eq_getElem (by (revert e1 e2; lia))]
  simp only [Option.map_some,List.getD_eq_getElem?_getD]
  rw [List.getElem?_eq_getElem (by (revert e1 e2; lia))]; rfl
 walk_at "go"
 refine b_len_list h (by simp; (revert h0 h1; lia)) ?_
 refine bop_int ?_ (by intro _; simp; (revert h0 h1; lia))
 refine ⟨by simp; (revert h0; lia),?_⟩
 simp only [List.length_map]
 refine bop_int ?_ (by simp)
 refine ⟨.of_left (by decide),?_⟩
 refine bo_ ?_
 exact q
end
section
variable {c:Ctx} {n:Nat} {σ W:Sto} {Q:KV} {R:Sto→Prop} {H:List (Addr×O)}
noncomputable def lmD (p:Int×Mt):D:=.tup [.int p.1,mtD p.2]
theorem rep_lm {p:Int×Mt} {v:V}:Rep σ (lmD p) v↔∃ a w,v=.ref a∧σ a=some (.tuple [.int p.1,w])∧Rep σ (mtD p.2) w:=by
 constructor
 ·rintro ⟨a,vs,rfl,h,v1,w1,rfl,rfl,v2,w2,rfl,hr,rfl⟩; exact ⟨a,v2,rfl,h,hr⟩
 ·rintro ⟨a,w,rfl,h,hr⟩; exact ⟨a,_,rfl,h,_,_,rfl,rfl,w,_,rfl,hr,rfl⟩
theorem lm_new {l n s p q e g:Int} {a1 a2 a3 a4:Addr} (A:At σ W H) (h1:σ a1=none) (h2:(σ.set a1 (.tuple [.int p,.int q])) a2=none)
  (h3:((σ.set a1 (.tuple [.int p,.int q])).set a2 (.tuple [.int e,.int g])) a3=none)
  (h4:(((σ.set a1 (.tuple [.int p,.int q])).set a2 (.tuple [.int e,.int g])).set a3 (.tuple [.int n,.int s,.ref a1,.ref a2])) a4=none) :
  ∃ W',W.le W'∧At ((((σ.set a1 (.tuple [.int p,.int q])).set a2 (.tuple [.int e,.int g])).set a3 (.tuple [.int n,.int s,.ref a1,.ref a2])).set a4 (.tuple [.int l,.ref a3])) W' H∧Rep W' (lmD (l,⟨n,s,(p,q),(e,g)⟩)) (.ref a4):=by
 have n12:a1≠a2:=fun e=>by rw [e,Sto.set_same] at h2; cases h2
 have n13:a1≠a3:=fun e=>by rw [e,Sto.set_ne (fun q=>n12 (e.trans q)),Sto.set_same] at h3; cases h3
 have n23:a2≠a3:=fun e=>by rw [e,Sto.set_same] at h3; cases h3
 have n34:a3≠a4:=fun e=>by rw [e,Sto.set_same] at h4; cases h4
 have n24:a2≠a4:=fun e=>by rw [e,Sto.set_ne (fun q=>n23 (e.trans q)),Sto.set_same] at h4; cases h4
 have n14:a1≠a4:=fun e=>by rw [e,Sto.set_ne (fun q=>n13 (e.trans q)),Sto.set_ne (fun q=>n12 (e.trans q)),Sto.set_same] at h4; cases h4
 have A1:=A.newF (o:=.tuple [.int p,.int q]) h1
 have A2:=A1.newF (o:=.tuple [.int e,.int g]) h2
 have A3:=A2.newF (o:=.tuple [.int n,.int s,.ref a1,.ref a2]) h3
 have A4:=A3.newF (o:=.tuple [.int l,.ref a3]) h4
 refine ⟨_,Sto.le_trans (A.newle h1) (Sto.le_trans (A1.newle h2) (Sto.le_trans (A2.newle h3) (A3.newle h4))),A4,rep_lm.mpr ⟨a4,.ref a3,rfl,Sto.set_same,rep_mt.mpr ⟨a3,a1,a2,rfl,?_,?_,?_⟩⟩⟩
 ·rw [Sto.set_ne n34,Sto.set_same]
 ·rw [Sto.set_ne n14,Sto.set_ne n13,Sto.set_ne n12,Sto.set_same]
 ·rw [Sto.set_ne n24,Sto.set_ne n23,Sto.set_same]
noncomputable def tidy (v cnt t:Int):Int×Mt :=
 if v%cnt=0 then (0,⟨50+t,1+v / 16%60,(v / cnt%4,-9),(v / cnt%4+v / 9%4,0-v%7)⟩)
 else (v%cnt,⟨10*(v%cnt)+v / cnt%4,1+v / 16%60,(2*(v / cnt%4),-9),(2*(v / cnt%4)+1,0-v%7)⟩)
theorem ok_law_tidy (x:Cx c) (A:At σ W H) {v cnt t:Int} (hc:0 < cnt) (hc1:cnt < 1000) (q:∀ σ' W' a,W.le W'→At σ' W' H→Rep W' (lmD (tidy v cnt t)) (.ref a)→Q (.ref a) σ') :
  Call c (n+1) (.ref 561) [.int v,.int cnt,.int t] σ Q R:=by
 refine Call.go x (fn__law_tidy x) fun Φ r=>?_
 walk_at "go"
 refine bop_int ⟨hc,_,stK_ok rfl,?_⟩ (by simp)
 walk_at "go"
 refine bop_int ?_ (by intro _; (revert hc hc1; lia))
 refine ⟨hc,?_⟩
 walk_at "go"
 refine bop_int ⟨by lia,_,stK_ok rfl,?_⟩ (by simp)
 walk_at "go"
 refine div_ (by lia) ?_
 walk_at "go"
 refine mod_ (by lia) ?_
 refine bo_ ?_
 refine st_ rfl ?_
 walk_at "go"
 refine ct_ ?_
 unfold tidy at q
 by_cases h0:v%cnt=0
 ·rw [if_pos h0] at q
  refine if_t h0 ?_
  walk_at "go"
  refine SE_tuple (by simp) ?_
  walk_at "go"
  refine SE_tuple (by simp) ?_
  walk_at "go"
  refine bo_ ?_
  walk_at "go"
  refine SE_tuple (by simp) ?_
  walk_at "go"
  refine ⟨_,rfl,?_⟩
  walk_at "go"
  refine ⟨by simp,fun a1 h1=>?_⟩
  walk_at "go"
  refine SE_tuple (by simp) ?_
  walk_at "go"
  refine div_ (by lia) ?_
  walk_at "go"
  refine mod_ (by lia) ?_
  refine bo_ ?_
  walk_at "go"
  refine mod_ (by lia) ?_
  refine bo_ ?_
  walk_at "go"
  refine ⟨by simp,fun a2 h2=>?_⟩
  walk_at "go"
  refine ⟨by simp,fun a3 h3=>?_⟩
  walk_at "go"
  refine ⟨by simp,fun a4 h4=>?_⟩
  obtain ⟨W',hl,A',hr⟩:=lm_new A h1 h2 h3 h4
  exact q _ W' a4 hl A' hr
 ·rw [if_neg h0] at q
  refine if_f h0 ?_
  walk_at "s"
  walk_at "go"
  refine SE_tuple (by simp) ?_
  walk_at "go"
  refine SE_tuple (by simp) ?_
  walk_at "go"
  refine mul_ (.of_left (by decide)) ?_
  walk_at "go"
  refine bo_ ?_
  walk_at "go"
  refine SE_tuple (by simp) ?_
  walk_at "go"
  refine mul_ (.of_left (by decide)) ?_
  walk_at "go"
  refine ⟨_,rfl,?_⟩
  walk_at "go"
  refine ⟨by simp,fun a1 h1=>?_⟩
  walk_at "go"
  refine SE_tuple (by simp) ?_
  walk_at "go"
  refine mul_ (.of_left (by decide)) ?_
  walk_at "go"
  refine bo_ ?_
  walk_at "go"
  refine mod_ (by lia) ?_
  refine bo_ ?_
  walk_at "go"
  refine ⟨by simp,fun a2 h2=>?_⟩
  walk_at "go"
  refine ⟨by simp,fun a3 h3=>?_⟩
  walk_at "go"
  refine ⟨by simp,fun a4 h4=>?_⟩
  obtain ⟨W',hl,A',hr⟩:=lm_new A h1 h2 h3 h4
  exact q _ W' a4 hl A' hr
end
section
variable {c:Ctx} {n:Nat} {σ W:Sto} {Q:KV} {R:Sto→Prop} {H:List (Addr×O)}
noncomputable def wild (v cnt t:Int):Int×Mt :=
 if v%3=0 then (1+v / 3%(cnt-1),⟨70+t,1+v%9,(0,-9),(7,-1)⟩)
 else if v%3=1 then (0,⟨10+v / 3%4,1+v%9,(1,-9),(3,-1)⟩)
 else (v / 3%cnt,⟨70+t,1+v%9,(5,-3),(5-v / 12%2,-4)⟩)
theorem ok_law_wild (x:Cx c) (A:At σ W H) {v cnt t:Int} (hc:1 < cnt) (hc1:cnt < 1000) (q:∀ σ' W' a,W.le W'→At σ' W' H→Rep W' (lmD (wild v cnt t)) (.ref a)→Q (.ref a) σ') :
  Call c (n+1) (.ref 568) [.int v,.int cnt,.int t] σ Q R:=by
 refine Call.go x (fn__law_wild x) fun Φ r=>?_
 walk_at "go"
 refine mod_ (by lia) ?_
 walk_at "go"
 refine ct_ ?_
 unfold wild at q
 by_cases h0:v%3=0
 ·rw [if_pos h0] at q
  refine if_t h0 ?_
  walk_at "go"
  refine SE_tuple (by simp) ?_
  walk_at "go"
  refine div_ (by lia) ?_
  walk_at "go"
  refine bo_ ?_
  refine mod_ (by (revert hc hc1; lia)) ?_
  refine bo_ ?_
  walk_at "go"
  refine SE_tuple (by simp) ?_
  walk_at "go"
  refine bo_ ?_
  walk_at "go"
  refine mod_ (by lia) ?_
  refine bo_ ?_
  walk_at "go"
  refine SE_tuple (by simp) ?_
  walk_at "go"
  refine ⟨_,rfl,?_⟩
  walk_at "go"
  refine ⟨by simp,fun a1 h1=>?_⟩
  walk_at "go"
  refine SE_tuple (by simp) ?_
  walk_at "go"
  refine ⟨_,rfl,?_⟩
  walk_at "go"
  refine ⟨by simp,fun a2 h2=>?_⟩
  walk_at "go"
  refine ⟨by simp,fun a3 h3=>?_⟩
  walk_at "go"
  refine ⟨by simp,fun a4 h4=>?_⟩
  obtain ⟨W',hl,A',hr⟩:=lm_new A h1 h2 h3 h4
  exact q _ W' a4 hl A' hr
 ·rw [if_neg h0] at q
  refine if_f h0 ?_
  walk_at "s"
  walk_at "go"
  refine mod_ (by lia) ?_
  walk_at "go"
  refine ct_ ?_
  by_cases h1:v%3=1
  ·rw [if_pos h1] at q
   refine if_t h1 ?_
   walk_at "go"
   refine SE_tuple (by simp) ?_
   walk_at "go"
   refine SE_tuple (by simp) ?_
   walk_at "go"
   refine div_ (by lia) ?_
   walk_at "go"
   refine mod_ (by lia) ?_
   refine bo_ ?_
   walk_at "go"
   refine mod_ (by lia) ?_
   refine bo_ ?_
   walk_at "go"
   refine SE_tuple (by simp) ?_
   walk_at "go"
   refine ⟨_,rfl,?_⟩
   walk_at "go"
   refine ⟨by simp,fun a1 h1=>?_⟩
   walk_at "go"
   refine SE_tuple (by simp) ?_
   walk_at "go"
   refine ⟨_,rfl,?_⟩
   walk_at "go"
   refine ⟨by simp,fun a2 h2=>?_⟩
   walk_at "go"
   refine ⟨by simp,fun a3 h3=>?_⟩
   walk_at "go"
   refine ⟨by simp,fun a4 h4=>?_⟩
   obtain ⟨W',hl,A',hr⟩:=lm_new A h1 h2 h3 h4
   exact q _ W' a4 hl A' hr
  ·rw [if_neg h1] at q
   refine if_f h1 ?_
   walk_at "s"
   walk_at "go"
   refine SE_tuple (by simp) ?_
   walk_at "go"
   refine div_ (by lia) ?_
   walk_at "go"
   refine mod_ (by (revert hc hc1; lia)) ?_
   walk_at "go"
   refine SE_tuple (by simp) ?_
   walk_at "go"
   refine bo_ ?_
   walk_at "go"
   refine mod_ (by lia) ?_
   refine bo_ ?_
   walk_at "go"
   refine SE_tuple (by simp) ?_
   walk_at "go"
   refine ⟨_,rfl,?_⟩
   walk_at "go"
   refine ⟨by simp,fun a1 h1=>?_⟩
   walk_at "go"
   refine SE_tuple (by simp) ?_
   walk_at "go"
   refine div_ (by lia) ?_
   walk_at "go"
   refine mod_ (by lia) ?_
   refine bo_ ?_
   walk_at "go"
   refine ⟨_,rfl,?_⟩
   walk_at "go"
   refine ⟨by simp,fun a2 h2=>?_⟩
   walk_at "go"
   refine ⟨by simp,fun a3 h3=>?_⟩
   walk_at "go"
   refine ⟨by simp,fun a4 h4=>?_⟩
   obtain ⟨W',hl,A',hr⟩:=lm_new A h1 h2 h3 h4
   exact q _ W' a4 hl A' hr
end
section
variable {c:Ctx} {n:Nat} {σ W:Sto} {Q:KV} {R:Sto→Prop} {H:List (Addr×O)}
noncomputable def optF (hv:Addr) (nl lt bb lf:Int):List (Str×V):=[(Str.ofString "check",.int 1),(Str.ofString "log_block",.int 32768),(Str.ofString "sync_writes",.bool true),(Str.ofString "create_missing",.bool true),(Str.ofString "paranoid",.bool false),(Str.ofString "write_buffer",.int 4194304),(Str.ofString "max_height",.int 12),(Str.ofString "heights",.ref hv),(Str.ofString "block_size",.int 4096),(Str.ofString "restart_interval",.int 16),(Str.ofString "filter_bits",.int 10),(Str.ofString "filter_base_lg",.int 11),(Str.ofString "max_file_size",.int 2097152),(Str.ofString "num_levels",.int nl),(Str.ofString "l0_trigger",.int lt),(Str.ofString "l0_stop",.int 12),(Str.ofString "base_bytes",.int bb),(Str.ofString "level_factor",.int lf),(Str.ofString "max_mem_level",.int 2),(Str.ofString "grandparent_factor",.int 10),(Str.ofString "expand_factor",.int 25)]
theorem ok_Options (x:Cx c) (A:At σ W H) (q:∀ σ' a hv,At σ' W ((a,.inst 305 (optF hv 7 4 10485760 10))::H)→Q (.ref a) σ'):Call c (n+2) (.ref 305) [] σ Q R:=by
 refine Call.make (x.cls rfl) fun o ho=>?_
 refine Call.go x (fn_Options___init__ x) fun Φ r=>?_
 walk_at "s"
 refine X_sa ?_
 walk_at "go"
 refine sas_ r.cx rfl ?_
 walk_at "s"
 refine X_sa ?_
 walk_at "go"
 refine sas_ r.cx rfl ?_
 walk_at "s"
 refine X_sa ?_
 walk_at "go"
 refine sas_ r.cx rfl ?_
 walk_at "s"
 refine X_sa ?_
 walk_at "go"
 refine sas_ r.cx rfl ?_
 walk_at "s"
 refine X_sa ?_
 walk_at "go"
 refine sas_ r.cx rfl ?_
 walk_at "s"
 refine X_sa ?_
 walk_at "go"
 refine sas_ r.cx rfl ?_
 walk_at "s"
 refine X_sa ?_
 walk_at "go"
 refine sas_ r.cx rfl ?_
 walk_at "s"
 refine X_sa ?_
 walk_at "go"
 refine SE_tuple (by simp) ?_
 walk_at "go"
 refine ⟨by simp,fun hv hh=>?_⟩
 have hne:o≠hv:=fun e=>by rw [e,Sto.set_same] at hh; cases hh
 walk_at "go"
 refine sa_ r.cx (by rw [Sto.set_ne hne]; exact Sto.set_same) rfl ?_
 walk_at "s"
 refine X_sa ?_
 walk_at "go"
 refine sas_ r.cx rfl ?_
 walk_at "s"
 refine X_sa ?_
 walk_at "go"
 refine sas_ r.cx rfl ?_
 walk_at "s"
 refine X_sa ?_
 walk_at "go"
 refine sas_ r.cx rfl ?_
 walk_at "s"
 refine X_sa ?_
 walk_at "go"
 refine sas_ r.cx rfl ?_
 walk_at "s"
 refine X_sa ?_
 walk_at "go"
 refine sas_ r.cx rfl ?_
 walk_at "s"
 refine X_sa ?_
 walk_at "go"
 refine sas_ r.cx rfl ?_
 walk_at "s"
 refine X_sa ?_
 walk_at "go"
 refine sas_ r.cx rfl ?_
 walk_at "s"
 refine X_sa ?_
 walk_at "go"
 refine sas_ r.cx rfl ?_
 walk_at "s"
 refine X_sa ?_
 walk_at "go"
 refine sas_ r.cx rfl ?_
 walk_at "s"
 refine X_sa ?_
 walk_at "go"
 refine sas_ r.cx rfl ?_
 walk_at "s"
 refine X_sa ?_
 walk_at "go"
 refine sas_ r.cx rfl ?_
 walk_at "s"
 refine X_sa ?_
 walk_at "go"
 refine sas_ r.cx rfl ?_
 walk_at "s"
 refine X_sa ?_
 walk_at "go"
 refine sas_ r.cx rfl ?_
 walk_at "s"
 have A1:=A.new (o:=.inst 305 [(Str.ofString "check",.int 1),(Str.ofString "log_block",.int 32768),(Str.ofString "sync_writes",.bool true),(Str.ofString "create_missing",.bool true),(Str.ofString "paranoid",.bool false),(Str.ofString "write_buffer",.int 4194304),(Str.ofString "max_height",.int 12)]) ho
 have A2:=(A1.new (o:=.tuple [.int 1,.int 2,.int 1,.int 3,.int 1,.int 2,.int 1,.int 4]) hh).sub (List.sublist_cons_self _ _)
 have A3:=A2.upd (o':=.inst 305 (optF hv 7 4 10485760 10))
 exact ⟨rfl,q _ o hv A3⟩
end
theorem mulOk {a b:Int} (h:a.natAbs < 1000000000000):IntMulOk a b:=by
 refine .of_left ?_
 unfold Builtin.Int.intBits
 by_cases h0:a=0
 ·simp [h0]
 ·have h1:a.natAbs≠0:=by (revert h0; lia)
  have:a.natAbs.log2 < 63:=(Nat.log2_lt h1).mpr (Nat.lt_of_lt_of_le h (by decide))
  simp only [beq_iff_eq,h0,if_false]
  (revert this; lia)
section
variable {c:Ctx} {Φ:Act} {n:Nat} {M M':Loc} {σ:Sto} {Q:KV} {R:KL} {pos:Pos} {k:Nat} {F:KF} {vs:Vars} {sc:Scope}
theorem SX_au (r:RunF Φ n vs sc) {x:Str} {op:Operator} {e:Expr} {p:Pos} {a:Int} (hv:Var vs M x (.int a))
  (h:SE Φ e M σ (kAug vs M x op a F) R):SX Φ (.AugAssign (.Name x p) op e pos) M σ F R:=by
 have e:=r.vars
 subst e
 exact SX_aug r.ok r.comp hv h
end
theorem pow_b {lf:Int} (f0:0≤lf) (f1:lf≤3) {j:Nat} (hj:j≤10):0≤lf ^ j∧lf ^ j≤59049:=by
 have h:0≤lf ^ j∧lf ^ j≤((3 ^ j:Nat):Int):=by
  clear hj
  induction j with
  | zero=>rw [Int.pow_zero]; exact ⟨Int.le_of_lt Int.zero_lt_one,Int.le_refl 1⟩
  | succ j ih=>rw [Int.pow_succ,Nat.pow_succ,Int.natCast_mul]; exact ⟨Int.mul_nonneg ih.1 f0,Int.mul_le_mul ih.2 f1 f0 (Int.natCast_nonneg _)⟩
 exact ⟨h.1,Int.le_trans h.2 (Int.ofNat_le.mpr (Nat.le_trans (Nat.pow_le_pow_right (Nat.succ_pos 2) hj) (Nat.le_of_ble_eq_true rfl)))⟩
section
variable {c:Ctx} {n:Nat} {σ W:Sto} {Q:KV} {R:Sto→Prop} {H:List (Addr×O)}
theorem ok_max_octets_of (x:Cx c) {o hv:Addr} {nl lt bb lf:Int} {lvl:Nat} (h:σ o=some (.inst 305 (optF hv nl lt bb lf))) (h1:1≤lvl) (h2:lvl≤10) (b0:0≤bb) (b1:bb≤100) (f0:0≤lf) (f1:lf≤3)
  (q:Q (.int (bb*lf ^ (lvl-1))) σ):Call c (n+1) (.ref 533) [.ref o,.int lvl] σ Q R:=by
 refine Call.go x (fn_max_octets_of x) fun Φ r=>?_
 unfold optF at h
 have hres:∀ j:Nat,j≤10→(bb*lf ^ j).natAbs < 1000000000000:=by
  intro j hj
  obtain ⟨a1,a2⟩:=pow_b f0 f1 hj
  have h5:bb*lf ^ j≤100*59049:=by
   refine Int.le_trans (Int.mul_le_mul_of_nonneg_right b1 a1) (Int.mul_le_mul_of_nonneg_left a2 (by lia))
  have h6:0≤bb*lf ^ j:=Int.mul_nonneg b0 a1
  (revert h5 h6; lia)
 walk_at "go"
 refine E_at ?_
 walk_at "go"
 refine at_ r.cx h rfl ?_
 refine st_ rfl ?_
 walk_at "s"
 refine SX_while r.ok r.comp (fun k M σ'=>k+1≤lvl∧σ'=σ∧M=[some (.ref o),some (.int ((k+1:Nat):Int)),some (.int (bb*lf ^ (lvl-1-k)))]) (lvl-1) ⟨by (revert h1 h2; lia),rfl,?_⟩ ?_
 ·have e1:lvl-1+1=lvl:=by (revert h1 h2; lia)
  simp [e1]
 rintro k M σ' ⟨hk,rfl,rfl⟩
 walk_at "go"
 refine ct_ ?_
 by_cases h0:1 < ((k+1:Nat):Int)
 ·refine if_t h0 ?_
  walk_at "s"
  refine SX_au r (lk_var rfl) ?_
  refine E_at ?_
  walk_at "go"
  refine at_ r.cx h rfl ?_
  refine ⟨lf,rfl,mulOk (hres _ (by (revert h1 h2 hk h0; lia))),_,stK_ok rfl,?_⟩
  walk_at "s"
  refine SX_au r (lk_var rfl) ?_
  walk_at "go"
  refine ⟨1,rfl,_,stK_ok rfl,?_⟩
  walk_at "go"
  refine ⟨k-1,by (revert h0; lia),by (revert hk h0; lia),rfl,?_⟩
  have e1:(((k+1:Nat):Int)-1)=(((k-1)+1:Nat):Int):=by (revert h0; lia)
  have e2:bb*lf ^ (lvl-1-k)*lf=bb*lf ^ (lvl-1-(k-1)):=by
   have:lvl-1-(k-1)=(lvl-1-k)+1:=by (revert hk e1; lia)
   rw [this,Int.pow_succ,Int.mul_assoc]
  rw [e1,e2]
 ·refine if_f h0 ?_
  walk_at "go"
  have:k=0:=by (revert h0; lia)
  subst this
  exact q
end
structure ClsOk0 (c:Ctx) (C:Addr):Prop where
 makes:makesIn c.K C=true
 init:findIn c.K (.ref C) "__init__"=some (some (.builtin "object.__init__"))
theorem Call.make0 {c:Ctx} {n:Nat} {σ:Sto} {C:Addr} {Q:KV} {R:Sto→Prop} (co:ClsOk0 c C)
  (h:∀ x,σ x=none→Q (.ref x) (σ.set x (.inst C []))):Call c n (.ref C) [] σ Q R:=by
 refine .mk fun Φ hc ok P M vals s hv y=>?_
 subst hc
 have:vals=[]:=by cases vals <;> simp at hv ⊢
 subst this
 obtain ⟨m,F,N⟩:=y.fr
 have X:=y.K ok
 refine make_K0 F allNews_news X co.makes co.init fun x dx h' F' N' l1 l2=>?_
 have k:=kept_of_news F' N' (fun p hp=>List.mem_cons_of_mem _ (List.mem_cons_of_mem _ hp)) F
 have hdx:s.heap.get? dx=none:=by
  cases e:s.heap.get? dx with
  | none=>rfl
  | some o =>
   by_cases q:dx=Φ.L
   ·exact absurd q (N' (dx,emptyDict) (.tail _ (.head _))).2.1
   ·have hb:Φ.base.get? dx=none:=(N' (dx,emptyDict) (.tail _ (.head _))).2.2
    exact absurd (l1 _ (allNews_mem.mpr ⟨e,q,hb⟩)) (Nat.lt_irrefl _)
 have hx:s.heap.get? x=none:=by
  cases e:s.heap.get? x with
  | none=>rfl
  | some o =>
   by_cases q:x=Φ.L
   ·exact absurd q (N' (x,instObj C dx) (.head _)).2.1
   ·have hb:Φ.base.get? x=none:=(N' (x,instObj C dx) (.head _)).2.2
    exact absurd (Nat.lt_trans l2 (l1 _ (allNews_mem.mpr ⟨e,q,hb⟩))) (Nat.lt_irrefl _)
 have z:=y.push F N k (a:=x) (dx:=dx) (o:=.inst C []) ⟨(N' _ (.head _)).1,[],0,(N' _ (.tail _ (.head _))).1,trivial,.nil⟩ (fun b hb=>by
  simp [fp] at hb
  rcases hb with rfl | rfl
  ·exact hx
  ·exact hdx) (fun C' fs' e=>(Nat.ne_of_gt l2))
 exact ⟨⟨rfl,rfl,rfl⟩,_,z.2,h x z.1⟩
theorem cls0_BytesOrder {c:Ctx} (x:Cx c):ClsOk0 c 218:=⟨by rw [x.K]; rfl,by rw [x.K]; rfl⟩
section
variable {c:Ctx} {n:Nat} {σ W:Sto} {Q:KV} {R:Sto→Prop} {H:List (Addr×O)}
theorem ok_InternalOrder (x:Cx c) (A:At σ W H) (q:∀ σ' W' io,W.le W'→At σ' W' H→OrdAt W' io→Q (.ref io) σ'):Call c (n+2) (.ref 272) [] σ Q R:=by
 refine Call.make (x.cls rfl) fun o ho=>?_
 refine Call.go x (fn_InternalOrder___init__ x) fun Φ r=>?_
 walk_at "s"
 refine X_sa ?_
 walk_at "go"
 refine Call.make0 (cls0_BytesOrder r.cx) fun u hu=>?_
 have hne:o≠u:=fun e=>by rw [e,Sto.set_same] at hu; cases hu
 walk_at "go"
 refine sa_ r.cx (by rw [Sto.set_ne hne]; exact Sto.set_same) rfl ?_
 walk_at "go"
 have A1:=(A.new (o:=.inst 272 []) ho)
 have A2:=A1.new (o:=.inst 218 []) hu
 have A3:=A2.freeze
 have A4:=A3.upd (o':=.inst 272 [(Str.ofString "user_order",.ref u)])
 have A5:=A4.freeze
 refine ⟨rfl,q _ _ o (Sto.le_trans A2.fle A4.fle) A5 ⟨u,Sto.set_same,?_⟩⟩
 rw [Sto.set_ne (Ne.symm hne),Sto.set_same]
noncomputable def editF (cp dl al:Addr) (rs:Bool):List (Str×V):=[(Str.ofString "comparator",.none),(Str.ofString "log_number",.none),(Str.ofString "next_file",.none),(Str.ofString "last_seq",.none),(Str.ofString "compact_pointers",.ref cp),(Str.ofString "deleted",.ref dl),(Str.ofString "added",.ref al),(Str.ofString "reset",.bool rs)]
theorem ok_VersionEdit (x:Cx c) (A:At σ W H) (q:∀ σ' e cp dl al,At σ' W ((e,.inst 375 (editF cp dl al false))::(dl,.list [])::(al,.list [])::(cp,.list [])::H)→Q (.ref e) σ'):Call c (n+2) (.ref 375) [] σ Q R:=by
 refine Call.make (x.cls rfl) fun o ho=>?_
 refine Call.go x (fn_VersionEdit___init__ x) fun Φ r=>?_
 have A:=A.new (o:=.inst 375 []) ho
 walk_at "s"
 refine X_sa ?_
 walk_at "go"
 refine sa_ r.cx (A.get (.head _)) rfl ?_
 have A:=A.upd (o':=.inst 375 [(Str.ofString "comparator",.none)])
 walk_at "s"
 refine X_sa ?_
 walk_at "go"
 refine sa_ r.cx (A.get (.head _)) rfl ?_
 have A:=A.upd (o':=.inst 375 [(Str.ofString "comparator",.none),(Str.ofString "log_number",.none)])
 walk_at "s"
 refine X_sa ?_
 walk_at "go"
 refine sa_ r.cx (A.get (.head _)) rfl ?_
 have A:=A.upd (o':=.inst 375 [(Str.ofString "comparator",.none),(Str.ofString "log_number",.none),(Str.ofString "next_file",.none)])
 walk_at "s"
 refine X_sa ?_
 walk_at "go"
 refine sa_ r.cx (A.get (.head _)) rfl ?_
 have A:=A.upd (o':=.inst 375 [(Str.ofString "comparator",.none),(Str.ofString "log_number",.none),(Str.ofString "next_file",.none),(Str.ofString "last_seq",.none)])
 walk_at "s"
 refine X_sa ?_
 walk_at "go"
 refine SE_list ?_
 walk_at "go"
 refine ⟨by simp,fun cp hcp=>?_⟩
 have A:=A.new (o:=.list []) hcp
 walk_at "go"
 have A:=A.perm (List.Perm.swap _ _ _)
 refine sa_ r.cx (A.get (.head _)) rfl ?_
 have A:=A.upd (o':=.inst 375 [(Str.ofString "comparator",.none),(Str.ofString "log_number",.none),(Str.ofString "next_file",.none),(Str.ofString "last_seq",.none),(Str.ofString "compact_pointers",.ref cp)])
 walk_at "s"
 refine X_sa ?_
 walk_at "go"
 refine SE_list ?_
 walk_at "go"
 refine ⟨by simp,fun dl hdl=>?_⟩
 have A:=A.new (o:=.list []) hdl
 walk_at "go"
 have A:=A.perm (List.Perm.swap _ _ _)
 refine sa_ r.cx (A.get (.head _)) rfl ?_
 have A:=A.upd (o':=.inst 375 [(Str.ofString "comparator",.none),(Str.ofString "log_number",.none),(Str.ofString "next_file",.none),(Str.ofString "last_seq",.none),(Str.ofString "compact_pointers",.ref cp),(Str.ofString "deleted",.ref dl)])
 walk_at "s"
 refine X_sa ?_
 walk_at "go"
 refine SE_list ?_
 walk_at "go"
 refine ⟨by simp,fun al hal=>?_⟩
 have A:=A.new (o:=.list []) hal
 walk_at "go"
 have A:=A.perm (List.Perm.swap _ _ _)
 refine sa_ r.cx (A.get (.head _)) rfl ?_
 have A:=A.upd (o':=.inst 375 [(Str.ofString "comparator",.none),(Str.ofString "log_number",.none),(Str.ofString "next_file",.none),(Str.ofString "last_seq",.none),(Str.ofString "compact_pointers",.ref cp),(Str.ofString "deleted",.ref dl),(Str.ofString "added",.ref al)])
 walk_at "s"
 refine X_sa ?_
 walk_at "go"
 refine sa_ r.cx (A.get (.head _)) rfl ?_
 have A:=A.upd (o':=.inst 375 [(Str.ofString "comparator",.none),(Str.ofString "log_number",.none),(Str.ofString "next_file",.none),(Str.ofString "last_seq",.none),(Str.ofString "compact_pointers",.ref cp),(Str.ofString "deleted",.ref dl),(Str.ofString "added",.ref al),(Str.ofString "reset",.bool false)])
 walk_at "s"
 refine ⟨rfl,q _ o cp dl al (A.perm ?_)⟩
 unfold editF
 refine List.Perm.cons _ ?_
 exact (List.Perm.swap _ _ _).trans (List.Perm.cons _ (List.Perm.refl _))
end
theorem Sto.le.trans' {a b c:Sto} (h:a.le b) (h':b.le c):a.le c:=Sto.le_trans h h'
theorem SG_name' {Φ:Act} {n:Nat} {M M':Loc} {σ:Sto} {R:KL} {vs:Vars} {sc:Scope} (r:Run Φ n vs sc) {x:Str} {p:Pos} {v:V} {K:KL} (hs:SetV vs M x v M') (q:K M' σ):SG Φ (assign (.Name x p) Φ.env) v M σ K R:=by
 have h:=r.vars
 subst h
 exact SG_name r.ok hs q
section
variable {c:Ctx} {n:Nat} {σ W:Sto} {Q:KV} {R:Sto→Prop} {H:List (Addr×O)}
noncomputable def addD (p:Int×Mt):D:=.tup [.int p.1,fmD p.2]
theorem rep_add {p:Int×Mt} {v:V}:Rep σ (addD p) v↔∃ a f,v=.ref a∧σ a=some (.tuple [.int p.1,.ref f])∧σ f=some (.inst 340 (fmF p.2)):=by
 constructor
 ·rintro ⟨a,vs,rfl,h,v1,w1,rfl,rfl,v2,w2,rfl,⟨f,rfl,hf⟩,rfl⟩; exact ⟨a,f,rfl,h,hf⟩
 ·rintro ⟨a,f,rfl,h,hf⟩; exact ⟨a,_,rfl,h,_,_,rfl,rfl,_,_,rfl,⟨f,rfl,hf⟩,rfl⟩
noncomputable def rowD (m:Mt):D:=.tup [.int m.n,.int m.s,.bytes (key m.lo),.bytes (key m.hi)]
noncomputable def arD (p:Int×Mt):D:=.tup [.int p.1,rowD p.2]
noncomputable def erowD (dels:List D) (adds:List (Int×Mt)) (rs:Bool):D:=.tup [.none,.none,.none,.none,.tup [],.tup dels,.tup (adds.map arD),.bool rs]
theorem ok_VersionEdit_row (x:Cx c) {e cp dl al:Addr} {rs:Bool} {dvs avs:List V} {dels:List D} {adds:List (Int×Mt)} (A:At σ W ((e,.inst 375 (editF cp dl al rs))::(dl,.list dvs)::(al,.list avs)::(cp,.list [])::H))
  (hd:Reps W dels dvs) (ha:Reps W (adds.map addD) avs) (z1:dvs.length≤1000) (z2:avs.length≤1000)
  (q:∀ σ' W' v,W.le W'→At σ' W' ((e,.inst 375 (editF cp dl al rs))::(dl,.list dvs)::(al,.list avs)::(cp,.list [])::H)→Rep W' (erowD dels adds rs) v→Q v σ'):Call c (n+3) (.ref 365) [.ref e] σ Q R:=by
 refine Call.go x (fn_VersionEdit_row x) fun Φ r=>?_
 refine (let M0:Loc:=_; (?_:SS _ _ M0 _ _ _))
 walk_at "go"
 refine SE_list ?_
 walk_at "go"
 refine ⟨by simp,fun l hl=>?_⟩
 have A:=A.new (o:=.list []) hl
 refine (let M1:Loc:=_; st_ (M':=M1) rfl ?_)
 walk_at "s"
 refine X_for ?_
 refine E_at ?_
 walk_at "go"
 refine at_ r.cx (A.get (.tail _ (.head _))) rfl ?_
 refine ⟨al,avs,rfl,?_⟩
 -- the loop
 suffices main:∀ (rest:List V) (ra:List (Int×Mt)) (done:List (Int×Mt)) (acc:List V) (σ₁ W₁:Sto) (o1 o2:Option V),W.le W₁→At σ₁ W₁ ((l,.list acc)::(e,.inst 375 (editF cp dl al rs))::(dl,.list dvs)::(al,.list avs)::(cp,.list [])::H) →
   Reps W (ra.map addD) rest→Reps W₁ (done.map arD) acc→adds=done++ra→ForG Φ _ _ (fun σ=>σ al=some (.list avs)) _ _ rest [some (.ref e),some (.ref l),o1,o2] σ₁ from
  main avs adds [] [] _ W none none (Sto.le_refl _) A ha rfl rfl
 intro rest
 induction rest with
 | nil =>
  intro ra done acc σ₁ W₁ o1 o2 hW A1 hr hacc hadds
  obtain rfl:=list_end hr
  rw [List.append_nil] at hadds
  subst hadds
  refine ⟨A1.get (by simp),?_⟩
  walk_at "go"
  refine SE_tuple (by simp) ?_
  walk_at "go"
  refine E_at ?_
  walk_at "go"
  refine at_ r.cx (A1.get (.tail _ (.head _))) rfl ?_
  walk_at "go"
  refine E_at ?_
  walk_at "go"
  refine at_ r.cx (A1.get (.tail _ (.head _))) rfl ?_
  walk_at "go"
  refine E_at ?_
  walk_at "go"
  refine at_ r.cx (A1.get (.tail _ (.head _))) rfl ?_
  walk_at "go"
  refine E_at ?_
  walk_at "go"
  refine at_ r.cx (A1.get (.tail _ (.head _))) rfl ?_
  walk_at "go"
  refine E_at ?_
  walk_at "go"
  refine at_ r.cx (A1.get (.tail _ (.head _))) rfl ?_
  walk_at "go"
  refine c_tuple_list (vs:=[]) (A1.get (by simp)) (by simp) fun t1 ht1=>?_
  have A2:=A1.newF (o:=.tuple []) ht1
  have L2:=A1.newle (o:=.tuple []) ht1
  walk_at "go"
  refine E_at ?_
  walk_at "go"
  refine at_ r.cx (A2.get (.tail _ (.head _))) rfl ?_
  walk_at "go"
  refine c_tuple_list (vs:=dvs) (A2.get (by simp)) (by (revert z1; lia)) fun t2 ht2=>?_
  have A3:=A2.newF (o:=.tuple dvs) ht2
  have L3:=A2.newle (o:=.tuple dvs) ht2
  walk_at "go"
  have hz:acc.length≤1000:=by
   have h1:=hacc.length
   have h2:=ha.length
   simp only [List.length_map] at h1 h2
   (revert z2 h1 h2; lia)
  refine c_tuple_list (A3.get (.head _)) (by (revert hz; lia)) fun t3 ht3=>?_
  have A4:=A3.newF (o:=.tuple acc) ht3
  have L4:=A3.newle (o:=.tuple acc) ht3
  walk_at "go"
  refine E_at ?_
  walk_at "go"
  refine at_ r.cx (A4.get (.tail _ (.head _))) rfl ?_
  walk_at "go"
  refine ⟨by simp,fun t4 ht4=>?_⟩
  have A5:=A4.newF (o:=.tuple [.none,.none,.none,.none,.ref t1,.ref t2,.ref t3,.bool rs]) ht4
  have L5:=A4.newle (o:=.tuple [.none,.none,.none,.none,.ref t1,.ref t2,.ref t3,.bool rs]) ht4
  refine q _ _ _ (hW.trans' (L2.trans' (L3.trans' (L4.trans' L5)))) (A5.sub (List.sublist_cons_self _ _)) ?_
  refine ⟨t4,_,rfl,Sto.set_same,?_⟩
  have s1:((W₁.set t1 (.tuple [])).set t2 (.tuple dvs)).le (((((W₁.set t1 (.tuple [])).set t2 (.tuple dvs)).set t3 (.tuple acc)).set t4 (.tuple [.none,.none,.none,.none,.ref t1,.ref t2,.ref t3,.bool rs]))):=L4.trans' L5
  refine ⟨_,_,rfl,rfl,_,_,rfl,rfl,_,_,rfl,rfl,_,_,rfl,rfl,_,_,rfl,⟨t1,[],rfl,?_,rfl⟩,_,_,rfl,⟨t2,dvs,rfl,?_,?_⟩,_,_,rfl,⟨t3,acc,rfl,?_,?_⟩,_,_,rfl,rfl,rfl⟩
  ·exact (L3.trans' (L4.trans' L5)) _ _ Sto.set_same
  ·exact (L4.trans' L5) _ _ Sto.set_same
  ·exact hd.mono (hW.trans' (L2.trans' (L3.trans' (L4.trans' L5))))
  ·exact L5 _ _ Sto.set_same
  ·exact hacc.mono (L2.trans' (L3.trans' (L4.trans' L5)))
 | cons v rest ih =>
  intro ra done acc σ₁ W₁ o1 o2 hW A1 hr hacc hadds
  obtain ⟨p,ra,rfl,hp,hrc⟩:=list_more hr
  obtain ⟨a,fm,rfl,h1,h2⟩:=rep_add.mp hp
  refine ⟨A1.get (by simp),?_⟩
  refine (let M1:Loc:=_; let F1:KF:=_; SG_t (M':=M1) (K:=kSb _ _ F1 _) r.toRun (A1.fz (hW _ _ h1)) rfl ?_)
  walk_at "s"
  refine X_ex ?_
  refine E_app ?_
  walk_at "go"
  refine ⟨_,_,rfl,A1.get (.head _),?_⟩
  walk_at "go"
  refine SE_tuple (by simp) ?_
  walk_at "go"
  refine SE_meth0 r.ok rfl ?_
  walk_at "go"
  refine me0_ r.cx (A1.fz (hW _ _ h2)) rfl ?_
  refine ok_FileMeta_row r.cx (A1.fz (hW _ _ h2)) fun t1 ht1=>?_
  have A2:=A1.newF (o:=.tuple [.int p.2.n,.int p.2.s,.bytes (key p.2.lo),.bytes (key p.2.hi)]) ht1
  have L2:=A1.newle (o:=.tuple [.int p.2.n,.int p.2.s,.bytes (key p.2.lo),.bytes (key p.2.hi)]) ht1
  walk_at "go"
  refine ⟨by simp,fun t2 ht2=>?_⟩
  have A3:=A2.newF (o:=.tuple [.int p.1,.ref t1]) ht2
  have L3:=A2.newle (o:=.tuple [.int p.1,.ref t1]) ht2
  walk_at "go"
  have hz:acc.length≤1000:=by
   have h1:=hacc.length
   have h2:=ha.length
   simp only [List.length_map,hadds,List.length_append] at h1 h2
   (revert z2 h1 h2; lia)
  refine l_append (A3.get (.head _)) (by (revert hz; lia)) ?_
  have A4:=A3.upd (o':=.list (acc++[.ref t2]))
  walk_at "go"
  refine ih ra (done++[p]) _ _ _ _ _ (hW.trans' (L2.trans' L3)) A4 hrc ?_ (by rw [hadds]; simp)
  rw [List.map_append]
  refine (hacc.mono (L2.trans' L3)).snoc ?_
  exact ⟨t2,_,rfl,Sto.set_same,_,_,rfl,rfl,_,_,rfl,⟨t1,_,rfl,L3 _ _ Sto.set_same,_,_,rfl,rfl,_,_,rfl,rfl,_,_,rfl,rfl,_,_,rfl,rfl,rfl⟩,rfl⟩
end
section
variable {c:Ctx} {n:Nat} {σ W:Sto} {Q:KV} {R:Sto→Prop} {H:List (Addr×O)}
noncomputable def verF (nl:Int) (io fl sc:Addr) (sl:Int):List (Str×V):=[(Str.ofString "num_levels",.int nl),(Str.ofString "order",.ref io),(Str.ofString "files",.ref fl),(Str.ofString "refs",.int 0),(Str.ofString "score",.ref sc),(Str.ofString "score_level",.int sl)]
theorem ok_Version (x:Cx c) (A:At σ W H) {nl:Nat} {io:Addr} (hn:nl≤100)
  (q:∀ (σ' W':Sto) (v fl:Addr) (las:List Addr) (sc:Addr),las.length=nl→W.le W'→At σ' W' ((v,.inst 466 (verF nl io fl sc (-1)))::(fl,.list (las.map V.ref))::((las.map fun a=>(a,.list []))++H))→W' sc=some (.tuple [.int 0,.int 1])→Q (.ref v) σ') :
  Call c (n+3) (.ref 466) [.int nl,.ref io] σ Q R:=by
 refine Call.make (x.cls rfl) fun o ho=>?_
 refine Call.go x (fn_Version___init__ x) fun Φ r=>?_
 refine (let M0:Loc:=_; (?_:SS _ _ M0 _ _ _))
 have A:=A.new (o:=.inst 466 []) ho
 walk_at "s"
 refine X_sa ?_
 walk_at "go"
 refine sa_ r.cx (A.get (.head _)) rfl ?_
 have A:=A.upd (o':=.inst 466 [(Str.ofString "num_levels",.int nl)])
 walk_at "s"
 refine X_sa ?_
 walk_at "go"
 refine sa_ r.cx (A.get (.head _)) rfl ?_
 have A:=A.upd (o':=.inst 466 [(Str.ofString "num_levels",.int nl),(Str.ofString "order",.ref io)])
 walk_at "s"
 refine X_sa ?_
 walk_at "go"
 refine SE_list ?_
 walk_at "go"
 refine ⟨by simp,fun fl hfl=>?_⟩
 have A:=A.new (o:=.list []) hfl
 have A:=A.perm (List.Perm.swap _ _ _)
 walk_at "go"
 refine sa_ r.cx (A.get (.head _)) rfl ?_
 have A:=A.upd (o':=.inst 466 [(Str.ofString "num_levels",.int nl),(Str.ofString "order",.ref io),(Str.ofString "files",.ref fl)])
 walk_at "s"
 refine X_forr ?_
 walk_at "go"
 refine ⟨nl,rfl,by (revert hn; lia),by (revert hn; lia),?_⟩
 suffices main:∀ (rest:List V) (las:List Addr) (σ₁:Sto) (o1:Option V),las.length+rest.length=nl→At σ₁ W ((o,.inst 466 [(Str.ofString "num_levels",.int nl),(Str.ofString "order",.ref io),(Str.ofString "files",.ref fl)])::(fl,.list (las.map V.ref))::((las.map fun a=>(a,.list []))++H)) →
   ForG Φ _ _ (fun _=>True) _ _ rest [some (.ref o),some (.int nl),some (.ref io),o1] σ₁ from
  main _ [] _ none (by simp [rng]) A
 intro rest
 induction rest with
 | nil =>
  intro las σ₁ o1 hl A
  refine ⟨trivial,?_⟩
  walk_at "s"
  refine X_sa ?_
  walk_at "go"
  refine sa_ r.cx (A.get (.head _)) rfl ?_
  have A:=A.upd (o':=.inst 466 [(Str.ofString "num_levels",.int nl),(Str.ofString "order",.ref io),(Str.ofString "files",.ref fl),(Str.ofString "refs",.int 0)])
  walk_at "s"
  refine X_sa ?_
  walk_at "go"
  refine SE_tuple (by simp) ?_
  walk_at "go"
  refine ⟨by simp,fun sc hsc=>?_⟩
  have L1:=A.newle (o:=.tuple [.int 0,.int 1]) hsc
  have A:=A.newF (o:=.tuple [.int 0,.int 1]) hsc
  walk_at "go"
  refine sa_ r.cx (A.get (.head _)) rfl ?_
  have A:=A.upd (o':=.inst 466 [(Str.ofString "num_levels",.int nl),(Str.ofString "order",.ref io),(Str.ofString "files",.ref fl),(Str.ofString "refs",.int 0),(Str.ofString "score",.ref sc)])
  walk_at "s"
  refine X_sa ?_
  walk_at "go"
  refine ⟨_,rfl,?_⟩
  walk_at "go"
  refine sa_ r.cx (A.get (.head _)) rfl ?_
  have A:=A.upd (o':=.inst 466 (verF nl io fl sc (-1)))
  walk_at "s"
  exact ⟨rfl,q _ _ o fl las sc (by simpa using hl) L1 A Sto.set_same⟩
 | cons v rest ih =>
  intro las σ₁ o1 hl A
  refine ⟨trivial,?_⟩
  refine (let M1:Loc:=_; let F1:KF:=_; SG_n (M':=M1) (K:=kSb _ _ F1 _) r.toRun rfl ?_)
  walk_at "s"
  refine X_ex ?_
  refine E_app ?_
  refine E_at ?_
  walk_at "go"
  refine at_ r.cx (A.get (.head _)) rfl ?_
  refine ⟨_,_,rfl,A.get (.tail _ (.head _)),?_⟩
  walk_at "go"
  refine SE_list ?_
  walk_at "go"
  refine ⟨by simp,fun a ha=>?_⟩
  have A:=A.new (o:=.list []) ha
  walk_at "go"
  refine l_append (A.get (.tail _ (.tail _ (.head _)))) (by simp at hl ⊢; (revert hn hl; lia)) ?_
  have A:=A.perm (List.Perm.trans (List.Perm.swap _ _ _) (List.Perm.trans (List.Perm.cons _ (List.Perm.swap _ _ _)) (List.Perm.swap _ _ _)))
  have A:=A.upd (o':=.list (las.map V.ref++[V.ref a]))
  walk_at "go"
  refine ih (las++[a]) _ _ (by simp at hl ⊢; (revert hl; lia)) ?_
  have A:=A.perm (List.Perm.swap _ _ _)
  rw [List.map_append,List.map_append]
  refine A.perm (List.Perm.cons _ (List.Perm.cons _ ?_))
  simp only [List.map_cons,List.map_nil,List.append_assoc,List.cons_append,List.nil_append]
  exact List.perm_middle.symm
end
section
variable {c:Ctx} {n:Nat} {σ W:Sto} {Q:KV} {R:Sto→Prop} {H:List (Addr×O)}
noncomputable def mkF (b:Addr) (dr:Bool) (dl al:Addr):List (Str×V):=[(Str.ofString "base",.ref b),(Str.ofString "dropped",.bool dr),(Str.ofString "deleted",.ref dl),(Str.ofString "added",.ref al)]
theorem ok_VersionMaker (x:Cx c) (A:At σ W H) {nl:Nat} {b io fl sc:Addr} {sl:Int} (hn:nl≤100) (hb:(b,O.inst 466 (verF nl io fl sc sl))∈H)
  (q:∀ (σ':Sto) (m dl al:Addr) (das aas:List Addr),das.length=nl→aas.length=nl→At σ' W ((m,.inst 522 (mkF b false dl al))::(dl,.list (das.map V.ref))::(al,.list (aas.map V.ref))::((das.map fun a=>(a,.dict []))++((aas.map fun a=>(a,.dict []))++H)))→Q (.ref m) σ') :
  Call c (n+3) (.ref 522) [.ref b] σ Q R:=by
 refine Call.make (x.cls rfl) fun o ho=>?_
 refine Call.go x (fn_VersionMaker___init__ x) fun Φ r=>?_
 refine (let M0:Loc:=_; (?_:SS _ _ M0 _ _ _))
 have A:=A.new (o:=.inst 522 []) ho
 walk_at "s"
 refine X_sa ?_
 walk_at "go"
 refine sa_ r.cx (A.get (.head _)) rfl ?_
 have A:=A.upd (o':=.inst 522 [(Str.ofString "base",.ref b)])
 walk_at "s"
 refine X_sa ?_
 walk_at "go"
 refine sa_ r.cx (A.get (.head _)) rfl ?_
 have A:=A.upd (o':=.inst 522 [(Str.ofString "base",.ref b),(Str.ofString "dropped",.bool false)])
 walk_at "s"
 refine X_sa ?_
 walk_at "go"
 refine SE_list ?_
 walk_at "go"
 refine ⟨by simp,fun dl hdl=>?_⟩
 have A:=A.new (o:=.list []) hdl
 have A:=A.perm (List.Perm.swap _ _ _)
 walk_at "go"
 refine sa_ r.cx (A.get (.head _)) rfl ?_
 have A:=A.upd (o':=.inst 522 [(Str.ofString "base",.ref b),(Str.ofString "dropped",.bool false),(Str.ofString "deleted",.ref dl)])
 walk_at "s"
 refine X_sa ?_
 walk_at "go"
 refine SE_list ?_
 walk_at "go"
 refine ⟨by simp,fun al hal=>?_⟩
 have A:=A.new (o:=.list []) hal
 have A:=A.perm (List.Perm.swap _ _ _)
 walk_at "go"
 refine sa_ r.cx (A.get (.head _)) rfl ?_
 have A:=A.upd (o':=.inst 522 (mkF b false dl al))
 have A:=A.perm (List.Perm.cons _ (List.Perm.swap _ _ _))
 walk_at "s"
 refine X_forr ?_
 refine E_at ?_
 walk_at "go"
 refine at_ r.cx (A.get (.tail _ (.tail _ (.tail _ hb)))) rfl ?_
 refine ⟨nl,rfl,by (revert hn; lia),by (revert hn; lia),?_⟩
 suffices main:∀ (rest:List V) (das aas:List Addr) (σ₁:Sto) (o1:Option V),das.length+rest.length=nl→aas.length=das.length→At σ₁ W ((o,.inst 522 (mkF b false dl al))::(dl,.list (das.map V.ref))::(al,.list (aas.map V.ref))::((das.map fun a=>(a,.dict []))++((aas.map fun a=>(a,.dict []))++H))) →
   ForG Φ _ _ (fun _=>True) _ _ rest [some (.ref o),some (.ref b),o1] σ₁ from
  main _ [] [] _ none (by simp [rng]) rfl A
 intro rest
 induction rest with
 | nil =>
  intro das aas σ₁ o1 hl hl2 A
  refine ⟨trivial,?_⟩
  walk_at "go"
  exact ⟨rfl,q _ o dl al das aas (by simpa using hl) (by rw [hl2]; simpa using hl) A⟩
 | cons v rest ih =>
  intro das aas σ₁ o1 hl hl2 A
  refine ⟨trivial,?_⟩
  refine (let M1:Loc:=_; let F1:KF:=_; SG_n (M':=M1) (K:=kSb _ _ F1 _) r.toRun rfl ?_)
  walk_at "s"
  refine X_ex ?_
  refine E_app ?_
  refine E_at ?_
  walk_at "go"
  refine at_ r.cx (A.get (.head _)) rfl ?_
  refine ⟨_,_,rfl,A.get (.tail _ (.head _)),?_⟩
  walk_at "go"
  refine SE_dict0 r.ok fun d hd=>?_
  have A:=A.new (o:=.dict []) hd
  walk_at "go"
  refine l_append (A.get (.tail _ (.tail _ (.head _)))) (by simp at hl ⊢; (revert hn hl hl2; lia)) ?_
  -- the list of dicts to the front,told anew
  have A:=A.perm (List.Perm.trans (List.Perm.swap _ _ _) (List.Perm.trans (List.Perm.cons _ (List.Perm.swap _ _ _)) (List.Perm.swap _ _ _)))
  have A:=A.upd (o':=.list (das.map V.ref++[V.ref d]))
  walk_at "s"
  refine X_ex ?_
  refine E_app ?_
  refine E_at ?_
  walk_at "go"
  refine at_ r.cx (A.get (.tail _ (.head _))) rfl ?_
  refine ⟨_,_,rfl,A.get (.tail _ (.tail _ (.tail _ (.head _)))),?_⟩
  walk_at "go"
  refine SE_dict0 r.ok fun d2 hd2=>?_
  have A:=A.new (o:=.dict []) hd2
  walk_at "go"
  refine l_append (A.get (.tail _ (.tail _ (.tail _ (.tail _ (.head _)))))) (by simp at hl ⊢; (revert hn hl hl2; lia)) ?_
  have p5:∀ {p1 p2 p3 p4 p5:Addr×O} {T:List (Addr×O)},(p1::p2::p3::p4::p5::T).Perm (p5::p1::p2::p3::p4::T):=fun {p1 p2 p3 p4 p5 T}=>(List.perm_middle (a:=p5) (l₁:=[p1,p2,p3,p4]) (l₂:=T))
  have A:=A.perm p5
  have A:=A.upd (o':=.list (aas.map V.ref++[V.ref d2]))
  walk_at "go"
  refine ih (das++[d]) (aas++[d2]) _ _ (by simp at hl ⊢; (revert hl; lia)) (by simp [hl2]) ?_
  refine A.perm ?_
  simp only [List.map_append,List.map_cons,List.map_nil,List.append_assoc,List.cons_append,List.nil_append]
  -- al,d2,dl,o,d::das++aas++H
  refine List.Perm.trans (List.perm_middle (a:=(o,O.inst 522 (mkF b false dl al))) (l₁:=[_,_,_]) (l₂:=_)) (List.Perm.cons _ ?_)
  refine List.Perm.trans (List.perm_middle (a:=(dl,_)) (l₁:=[_,_]) (l₂:=_)) (List.Perm.cons _ ?_)
  refine List.Perm.cons _ ?_
  refine List.Perm.trans (List.Perm.swap _ _ _) ?_
  refine List.Perm.trans ?_ List.perm_middle.symm
  refine List.Perm.cons _ ?_
  refine List.Perm.trans ?_ (List.Perm.append_left _ List.perm_middle.symm)
  exact List.perm_middle.symm
end
theorem exc_Corrupt {c:Ctx} (x:Cx c):ExcOk c (Str.ofString "Corrupt") [.type "Exception",.type "BaseException",.type "object"] "Exception.__new__":=⟨by rw [x.K,x.exc]; rfl,by rw [x.K,x.exc]; kernel_rfl,by rw [x.K,x.exc]; kernel_rfl⟩
theorem SX_rs {Φ:Act} {n:Nat} {M:Loc} {σ:Sto} {R:KL} {vs:Vars} {sc:Scope} {F:KF} {pos:Pos} {e:Expr} {np cpos:Pos} (h:SE Φ e M σ (kRz R M) R) (r:RunF Φ (n+1) vs sc:=by assumption) (hx:decide (((Str.ofString "Corrupt"),NameKind.globalImplicit)∈sc.names)=true:=by walk_at "dk")
  (hs:starEach [e] Φ.env=[(false,eval e Φ.env)]:=by k_dflt rfl) (hv:vs.all (fun v=>v.2.isNone)=true:=by k_dflt rfl):SX Φ (.Raise (some (.Call (.Name (Str.ofString "Corrupt") np) [e] [] cpos)) none pos) M σ F R :=
 SX_raise r.ok (by rw [r.scope]; exact of_decide_eq_true hx) (exc_Corrupt r.cx) PySem.F.excBase_Exception hs r.comp (r.hfe fun v hm=>Option.isNone_iff_eq_none.mp (List.all_eq_true.mp hv v hm)) h
section
variable {c:Ctx} {n:Nat} {σ W:Sto} {Q:KV} {R:Sto→Prop} {H:List (Addr×O)}
theorem ok_within (x:Cx c) {m b:Addr} {nl lv:Int} {dr:Bool} {dl al io fl sc:Addr} {sl:Int} (hm:σ m=some (.inst 522 (mkF b dr dl al))) (hb:σ b=some (.inst 466 (verF nl io fl sc sl))) (hn:nl.natAbs < 10 ^ 10) (hl:lv.natAbs < 10 ^ 10)
  (q:0≤lv∧lv < nl→Q .none σ) (e:¬ (0≤lv∧lv < nl)→R σ):Call c (n+2) (.ref 491) [.ref m,.int lv] σ Q R:=by
 refine Call.go x (fn_VersionMaker_within x) fun Φ r=>?_
 have get:∀ {M:Loc} {pos pos':Pos} {Q':KV} {R':KL} {np:Pos},Q' (.int nl) σ→SE Φ (.Attribute (.Attribute (.Name (Str.ofString "self") np) (Str.ofString "base") pos) (Str.ofString "num_levels") pos') [some (.ref m),some (.int lv)] σ Q' R':=by
  intro M pos pos' Q' R' np q'
  refine E_at ?_
  refine E_at ?_
  walk_at "go"
  refine at_ r.cx hm rfl ?_
  exact at_ r.cx hb rfl q'
 have err:¬ (0≤lv∧lv < nl)→∀ {p1 p2 p3 p4 p5 p6 p7 p8 p9 p10 p11 p12:Pos} {k1 k2:Nat} {F:KF},SS Φ [Stmt.Raise (some (.Call (.Name (Str.ofString "Corrupt") p1) [.JoinedStr [.Constant (.str (Str.ofString "edit: level ")) k1 p2,.FormattedValue (.Name (Str.ofString "level") p3) (-1) none p4,.Constant (.str (Str.ofString " of ")) k2 p5,.FormattedValue (.Attribute (.Attribute (.Name (Str.ofString "self") p6) (Str.ofString "base") p7) (Str.ofString "num_levels") p8) (-1) none p9] p10] [] p11)) none p12] [some (.ref m),some (.int lv)] σ F (kR R):=by
  intro h0; intros
  walk_at "s"
  refine SX_rs ?_
  walk_at "s"
  walk_at "s"
  walk_at "s"
  walk_at "go"
  refine ⟨lv,rfl,hl,?_⟩
  walk_at "s"
  walk_at "s"
  refine get (M:=[]) ?_
  refine ⟨nl,rfl,hn,?_⟩
  walk_at "s"
  intro out
  exact e h0
 walk_at "go"
 refine ct_ ?_
 by_cases h1:lv < 0
 ·refine if_t h1 ?_
  refine if_T ?_
  exact err (by (revert h1; lia))
 ·refine if_f h1 ?_
  walk_at "go"
  refine get (M:=[]) ?_
  refine ct_ ?_
  by_cases h2:nl≤lv
  ·refine if_t h2 ?_
   refine if_T ?_
   exact err (by (revert h2; lia))
  ·refine if_f h2 ?_
   walk_at "go"
   refine if_F ?_
   walk_at "go"
   walk_at "go"
   exact q (by (revert h1 h2; lia))
end
section
variable {c:Ctx} {n:Nat} {σ W:Sto} {Q:KV} {R:Sto→Prop} {H:List (Addr×O)}
noncomputable def befB (l:Int) (a b:Mt):Bool:=if 0 < l∧cmpE a.lo b.lo≠0 then decide (cmpE a.lo b.lo < 0) else decide (a.n < b.n)
theorem ok_before (x:Cx c) {m b:Addr} {nl lv:Int} {dr:Bool} {dl al io fl sc:Addr} {sl:Int} {fa fb:Addr} {ma mb:Mt} (hm:σ m=some (.inst 522 (mkF b dr dl al))) (hb:σ b=some (.inst 466 (verF nl io fl sc sl))) (ho:OrdAt σ io)
  (ha:σ fa=some (.inst 340 (fmF ma))) (hb':σ fb=some (.inst 340 (fmF mb))) (oa:MtOk ma) (ob:MtOk mb) (q:Q (.bool (befB lv ma mb)) σ):Call c (n+5) (.ref 505) [.ref m,.int lv,.ref fa,.ref fb] σ Q R:=by
 refine Call.go x (fn_VersionMaker_before x) fun Φ r=>?_
 refine (let M0:Loc:=_; (?_:SS _ _ M0 _ _ _))
 have fin:∀ {M:Loc} {o:Option V},¬ (0 < lv∧cmpE ma.lo mb.lo≠0)→∀ {p1 p2 p3 p4 p5 p6:Pos} ,SS Φ [Stmt.Return (some (.Compare (.Attribute (.Name (Str.ofString "a") p1) (Str.ofString "number") p2) [.Lt] [.Attribute (.Name (Str.ofString "b") p3) (Str.ofString "number") p4] p5)) p6] [some (.ref m),some (.int lv),some (.ref fa),some (.ref fb),o] σ
   (kFn Q) (kR R):=by
  intro M o h; intros
  unfold befB at q
  rw [if_neg h] at q
  walk_at "go"
  refine E_at ?_
  walk_at "go"
  refine at_ r.cx ha rfl ?_
  refine E_at ?_
  walk_at "go"
  refine at_ r.cx hb' rfl ?_
  refine cop_int ?_
  exact q
 walk_at "go"
 refine ct_ ?_
 by_cases h1:0 < lv
 ·refine if_t h1 ?_
  walk_at "go"
  refine SE_meth r.ok rfl rfl rfl ?_
  refine E_at ?_
  refine E_at ?_
  walk_at "go"
  refine at_ r.cx hm rfl ?_
  refine at_ r.cx hb rfl ?_
  obtain ⟨uo,o1,o2⟩:=id ho
  refine me_ r.cx o1 rfl ?_
  walk_at "go"
  refine E_at ?_
  walk_at "go"
  refine at_ r.cx ha rfl ?_
  walk_at "go"
  refine E_at ?_
  walk_at "go"
  refine at_ r.cx hb' rfl ?_
  walk_at "go"
  refine ok_IO_compare r.cx ho oa.lo ob.lo ?_
  refine (let M1:Loc:=_; st_ (M':=M1) rfl ?_)
  walk_at "go"
  refine ct_ ?_
  by_cases h2:cmpE ma.lo mb.lo=0
  ·refine if_nf h2 ?_
   walk_at "s"
   walk_at "s"
   exact fin (M:=[]) (by simp [h2])
  ·refine if_nt h2 ?_
   walk_at "go"
   refine cop_int ?_
   unfold befB at q
   rw [if_pos ⟨h1,h2⟩] at q
   exact q
 ·refine if_f h1 ?_
  walk_at "s"
  exact fin (M:=[]) (by simp [h1])
noncomputable def PlaceOk (lv:Int) (fs:List Mt) (mt:Mt) (k:Nat):Prop:=k≤fs.length∧(∀ y,0 < k→fs[k-1]?=some y→befB lv y mt=true)∧(∀ y,fs[k]?=some y→befB lv y mt=false)
theorem ok_place (x:Cx c) {m b:Addr} {nl lv:Int} {dr:Bool} {dl al io fl sc:Addr} {sl:Int} {l fm:Addr} {fs:List Mt} {vs:List V} {mt:Mt} (hm:σ m=some (.inst 522 (mkF b dr dl al))) (hb:σ b=some (.inst 466 (verF nl io fl sc sl))) (ho:OrdAt σ io)
  (hf:σ fm=some (.inst 340 (fmF mt))) (om:MtOk mt) (hl:σ l=some (.list vs)) (hr:Reps σ (fs.map fmD) vs) (of:∀ y∈fs,MtOk y) (hz:fs.length≤1000)
  (q:∀ k,PlaceOk lv fs mt k→Q .none (σ.set l (.list (vs.take k++.ref fm::vs.drop k)))):Call c (n+6) (.ref 512) [.ref m,.int lv,.ref l,.ref fm] σ Q R:=by
 refine Call.go x (fn_VersionMaker_place x) fun Φ r=>?_
 refine (let M0:Loc:=_; (?_:SS _ _ M0 _ _ _))
 have hlen:vs.length=fs.length:=by rw [hr.length,List.length_map]
 walk_at "go"
 refine (let M1:Loc:=_; st_ (M':=M1) rfl ?_)
 walk_at "go"
 refine b_len_list hl (by (revert hz hlen; lia)) ?_
 refine st_ rfl ?_
 walk_at "s"
 refine SX_while r.ok r.comp (fun k M σ'=>σ'=σ∧∃ (lo hi:Nat) (o:Option V),k=hi-lo∧lo≤hi∧hi≤fs.length∧M=[some (.ref m),some (.int lv),some (.ref l),some (.ref fm),some (.int lo),some (.int hi),o] ∧
   (∀ y,0 < lo→fs[lo-1]?=some y→befB lv y mt=true)∧(∀ y,fs[hi]?=some y→befB lv y mt=false)) (fs.length-0) ⟨rfl,0,fs.length,none,rfl,by (refine' (?_:_→_→_) hz hlen; lia),by lia,?_,fun _ h=>(Nat.not_lt_zero _ h).elim,?_⟩ ?_
 ·rw [hlen]; rfl
 ·intro y hy; rw [List.getElem?_eq_none (by lia)] at hy; cases hy
 rintro k M σ' ⟨rfl,lo,hi,o,rfl,h1,h2,rfl,h3,h4⟩
 walk_at "go"
 refine ct_ ?_
 by_cases h0:lo < hi
 ·refine ite_pos (by simpa using h0) ?_
  walk_at "go"
  refine bo_ ?_
  walk_at "go"
  refine bop_int (b:=2) ?_ (by intro _; lia)
  refine ⟨by lia,_,stK_ok rfl,?_⟩
  have e1:((lo:Int)+hi) / 2=(((lo+hi) / 2:Nat):Int):=by lia
  rw [e1]
  obtain ⟨mid,hmid⟩:∃ mid,mid=(lo+hi) / 2:=⟨_,rfl⟩
  rw [← hmid]
  have hm1:lo≤mid:=by (revert h0 e1 hmid; lia)
  have hm2:mid < hi:=by (revert h0 e1 hmid hm1; lia)
  have hm3:mid < fs.length:=by (revert hlen h2 hm2; lia)
  obtain ⟨w,ew,rw'⟩:=hr.at (i:=mid) (x:=fmD fs[mid]) (by rw [List.getElem?_map,List.getElem?_eq_getElem hm3]; rfl)
  obtain ⟨fa,rfl,hfa⟩:=rw'
  walk_at "go"
  refine SE_meth r.ok rfl rfl rfl ?_
  walk_at "go"
  refine me_ r.cx hm rfl ?_
  walk_at "go"
  refine E_sub ?_
  walk_at "go"
  refine ⟨.ref fa,.list hl (by lia) (by (refine' (?_:_→_→_→_) hz hlen hm3; lia)) (by simpa using ew),?_⟩
  walk_at "go"
  refine ok_before r.cx hm hb ho hfa hf (of _ (List.getElem_mem hm3)) om ?_
  refine ⟨_,rfl,?_⟩
  cases hbf:befB lv fs[mid] mt with
  | true =>
   refine if_T ?_
   walk_at "go"
   refine bo_ ?_
   refine st_ rfl ?_
   walk_at "go"
   refine ⟨hi-(mid+1),by (revert h0 hm1 hm2; lia),rfl,mid+1,hi,some (.int mid),rfl,by (revert hm2; lia),h2,by simp,?_,h4⟩
   intro y _ hy
   rw [Nat.add_sub_cancel,List.getElem?_eq_getElem hm3] at hy
   cases hy; exact hbf
  | false =>
   refine if_F ?_
   walk_at "go"
   refine (let M1:Loc:=_; st_ (M':=M1) rfl ?_)
   walk_at "go"
   refine ⟨mid-lo,by (refine' (?_:_→_→_→_) h0 hm1 hm2; lia),rfl,lo,mid,_,rfl,hm1,by (refine' (?_:_→_→_) hlen hm3; lia),rfl,h3,?_⟩
   intro y hy
   rw [List.getElem?_eq_getElem hm3] at hy
   cases hy; exact hbf
 ·refine ite_neg (by simpa using h0) ?_
  have:hi=lo:=by (revert h1 h0; lia)
  subst this
  walk_at "s"
  refine X_ex ?_
  refine SE_lmeth r.ok PySem.F.slot_list_insert rfl rfl rfl rfl ?_
  walk_at "go"
  refine ⟨_,_,rfl,hl,?_⟩
  walk_at "go"
  refine l_insert hl (by lia) (by (revert hlen h2; lia)) (by (revert hz hlen; lia)) ?_
  walk_at "go"
  exact q hi ⟨h2,h3,h4⟩
end
section
variable {c:Ctx} {n:Nat} {σ W:Sto} {Q:KV} {R:Sto→Prop} {H:List (Addr×O)}
theorem ok_level_octets (x:Cx c) {v io fl sc a:Addr} {nl sl:Int} {las:List Addr} {k:Nat} {vs:List V} {fs:List Mt} (hv:σ v=some (.inst 466 (verF nl io fl sc sl))) (hfl:σ fl=some (.list (las.map V.ref))) (hk:las[k]?=some a) (hz:las.length≤1000)
  (ha:σ a=some (.list vs)) (hr:Reps σ (fs.map fmD) vs) (q:Q (.int (fs.map (·.s)).sum) σ):Call c (n+2) (.ref 442) [.ref v,.int k] σ Q R:=by
 refine Call.go x (fn_Version_level_octets x) fun Φ r=>?_
 refine (let M0:Loc:=_; (?_:SS _ _ M0 _ _ _))
 have hkl:k < las.length:=(List.getElem?_eq_some_iff.mp hk).1
 walk_at "go"
 refine (let M1:Loc:=_; st_ (M':=M1) rfl ?_)
 walk_at "s"
 refine X_for ?_
 refine E_sub ?_
 refine E_at ?_
 walk_at "go"
 refine at_ r.cx hv rfl ?_
 walk_at "go"
 refine ⟨.ref a,.list hfl (by lia) (by (revert hz hkl; lia)) (by simp [hk]),?_⟩
 refine ⟨a,vs,rfl,?_⟩
 suffices main:∀ (rest:List V) (done todo:List Mt) (o1:Option V),fs=done++todo→Reps σ (todo.map fmD) rest→ForG Φ _ _ (fun σ=>σ a=some (.list vs)) _ _ rest [some (.ref v),some (.int k),some (.int (done.map (·.s)).sum),o1] σ from
  main vs [] fs none rfl hr
 intro rest
 induction rest with
 | nil =>
  intro done todo o1 h1 h2
  refine ⟨ha,?_⟩
  obtain rfl:=list_end h2
  rw [List.append_nil] at h1
  subst h1
  walk_at "go"
  exact q
 | cons w rest ih =>
  intro done todo o1 h1 h2
  obtain ⟨p,ra,rfl,⟨fa,rfl,hfa⟩,h2c⟩:=list_more h2
  refine ⟨ha,?_⟩
  refine (let M1:Loc:=_; let F1:KF:=_; SG_n (M':=M1) (K:=kSb _ _ F1 _) r.toRun rfl ?_)
  walk_at "s"
  refine SX_au r (lk_var rfl) ?_
  refine E_at ?_
  walk_at "go"
  refine at_ r.cx hfa rfl ?_
  refine ⟨p.s,rfl,_,stK_ok rfl,?_⟩
  walk_at "go"
  have:=ih (done++[p]) ra (some (.ref fa)) (by rw [h1]; simp) h2c
  simpa [List.sum_append] using this
class inductive Levs (σ:Sto):List Addr→List (List Mt)→Prop
 | nil:Levs σ [] []
 | cons {a as fs fss vs}:σ a=some (.list vs)→Reps σ (fs.map fmD) vs→vs.length≤1000→Levs σ as fss→Levs σ (a::as) (fs::fss)
theorem Levs.none {fss:List (List Mt)} (h:Levs σ [] fss):fss=[]:=by cases h; rfl
theorem Levs.un {a:Addr} {as:List Addr} {fss:List (List Mt)} (h:Levs σ (a::as) fss):∃ fs fss' vs,fss=fs::fss'∧σ a=some (.list vs)∧Reps σ (fs.map fmD) vs∧vs.length≤1000∧Levs σ as fss':=by
 cases h with
 | cons h1 h2 h3 h=>exact ⟨_,_,_,rfl,h1,h2,h3,h⟩
theorem Levs.length {as:List Addr} {fss:List (List Mt)} (h:Levs σ as fss):as.length=fss.length:=by
 induction h with
 | nil=>rfl
 | cons _ _ _ _ ih=>exact congrArg Nat.succ ih
theorem Levs.at {as:List Addr} {fss:List (List Mt)} (h:Levs σ as fss) {k:Nat} {fs:List Mt} (e:fss[k]?=some fs):∃ a vs,as[k]?=some a∧σ a=some (.list vs)∧Reps σ (fs.map fmD) vs∧vs.length≤1000:=by
 induction h generalizing k with
 | nil=>cases e
 | @cons a as fs' fss vs h1 h2 h3 _ ih =>
  cases k with
  | zero=>cases e; exact ⟨a,vs,rfl,h1,h2,h3⟩
  | succ k=>exact ih e
theorem Levs.mono {σ':Sto} (l:σ.le σ') {as:List Addr} {fss:List (List Mt)} (h:Levs σ as fss):Levs σ' as fss:=by
 induction h with
 | nil=>exact .nil
 | cons h1 h2 h3 _ ih=>exact .cons (l _ _ h1) (h2.mono l) h3 ih
theorem ok_numbers (x:Cx c) (A:At σ W H) {v io fl sc:Addr} {nl sl:Int} {las:List Addr} {fss:List (List Mt)} (hv:σ v=some (.inst 466 (verF nl io fl sc sl))) (hfl:σ fl=some (.list (las.map V.ref))) (hL:Levs σ las fss) (hz:fss.flatten.length < 64)
  (q:∀ (σ':Sto) (a:Addr) (ms:List Int),At σ' W ((a,.list (ms.map V.int))::H)→σ.le σ'→ms.Perm (fss.flatten.map (·.n))→ms.Pairwise (·≤·)→Q (.ref a) σ'):Call c (n+2) (.ref 449) [.ref v] σ Q R:=by
 refine Call.go x (fn_Version_numbers x) fun Φ r=>?_
 refine (let M0:Loc:=_; (?_:SS _ _ M0 _ _ _))
 walk_at "go"
 refine SE_list ?_
 walk_at "go"
 refine ⟨by simp,fun l hl=>?_⟩
 refine (let M1:Loc:=_; st_ (M':=M1) rfl ?_)
 walk_at "s"
 refine X_for ?_
 refine E_at ?_
 walk_at "go"
 have L0:σ.le (σ.set l (.list [])):=Sto.le_set hl
 refine at_ r.cx (L0 _ _ hv) rfl ?_
 refine ⟨fl,las.map V.ref,rfl,?_⟩
 -- σ with the list l of the numbers
 have put:∀ (acc:List V),σ.le (σ.set l (.list acc)):=fun acc=>Sto.le_set hl
 suffices main:∀ (rest:List Addr) (done todo:List (List Mt)) (o1 o2:Option V),fss=done++todo→Levs σ rest todo→ForG Φ _ _ (fun σ=>σ fl=some (.list (las.map V.ref))) _ _ (rest.map V.ref) [some (.ref v),some (.ref l),o1,o2] (σ.set l (.list ((done.flatten.map (·.n)).map V.int))) from
  main las [] fss none none rfl hL
 intro rest
 induction rest with
 | nil =>
  intro done todo o1 o2 h1 h2
  obtain rfl:=h2.none
  rw [List.append_nil] at h1
  subst h1
  refine ⟨put _ _ _ hfl,?_⟩
  walk_at "go"
  refine b_sorted_ints (ns:=fss.flatten.map (·.n)) Sto.set_same (by rw [List.length_map]; exact hz) fun D ms hD hp hs=>?_
  have A1:=((A.new (o:=.list ((fss.flatten.map (·.n)).map V.int)) hl).new (o:=.list (ms.map V.int)) hD)
  have A2:=(A1.perm (List.Perm.swap _ _ _)).sub (List.sublist_cons_self _ _)
  exact q _ D ms A2 (Sto.le_trans (put _) (Sto.le_set hD)) hp hs
 | cons a rest ih =>
  intro done todo o1 o2 h1 h2
  obtain ⟨fs,fss',vs,rfl,ha,hr,hvz,h2⟩:=h2.un
  refine ⟨put _ _ _ hfl,?_⟩
  refine (let M1:Loc:=_; let F1:KF:=_; SG_n (M':=M1) (K:=kSb _ _ F1 _) r.toRun rfl ?_)
  walk_at "s"
  refine X_for ?_
  walk_at "go"
  refine ⟨a,vs,rfl,?_⟩
  suffices inner:∀ (rest2:List V) (d t:List Mt) (o2:Option V),fs=d++t→Reps σ (t.map fmD) rest2→ForG Φ _ _ (fun σ=>σ a=some (.list vs)) _ _ rest2 [some (.ref v),some (.ref l),some (.ref a),o2] (σ.set l (.list (((done.flatten++d).map (·.n)).map V.int))) from by
   have:=inner vs [] fs o2 rfl hr
   simpa using this
  intro rest2
  induction rest2 with
  | nil =>
   intro d t o2 e1 e2
   obtain rfl:=list_end e2
   rw [List.append_nil] at e1
   subst e1
   refine ⟨put _ _ _ ha,?_⟩
   walk_at "go"
   have:=ih (done++[fs]) fss' (some (.ref a)) o2 (by rw [h1]; simp) h2
   simpa using this
  | cons w rest2 ih2 =>
   intro d t o2 e1 e2
   obtain ⟨p,ra,rfl,⟨fa,rfl,hfa⟩,e2c⟩:=list_more e2
   refine ⟨put _ _ _ ha,?_⟩
   refine (let M1:Loc:=_; let F1:KF:=_; SG_n (M':=M1) (K:=kSb _ _ F1 _) r.toRun rfl ?_)
   walk_at "s"
   refine X_ex ?_
   refine E_app ?_
   walk_at "go"
   refine ⟨l,_,rfl,Sto.set_same,?_⟩
   walk_at "go"
   refine E_at ?_
   walk_at "go"
   refine at_ r.cx (put _ _ _ hfa) rfl ?_
   walk_at "go"
   refine l_append Sto.set_same ?_ ?_
   ·have:(done.flatten++d).length≤fss.flatten.length:=by
     rw [h1,e1]; simp only [List.flatten_append,List.flatten_cons,List.length_append]; lia
    simp only [List.length_map]
    (revert hz this; lia)
   rw [Sto.set_set]
   walk_at "go"
   have:=ih2 (d++[p]) ra (some (.ref fa)) (by rw [e1]; simp) e2c
   simpa using this
end
theorem rng_nil {a b:Int} (h:b≤a):rng a b=[]:=by
 unfold rng; rw [show (b-a).toNat=0 by (revert h; lia)]; rfl
theorem rng_cons {a b:Int} (h:a < b):rng a b=.int a::rng (a+1) b:=by
 unfold rng
 rw [show (b-a).toNat=(b-(a+1)).toNat+1 by (revert h; lia),List.range_succ_eq_map,List.map_cons,List.map_map]
 refine congr (congrArg List.cons (by simp)) (List.map_congr_left fun i _=>?_)
 simp only [Function.comp]
 congr 1
 lia
theorem sorted_nodup {ms:List Int} (hs:ms.Pairwise (·≤·)):(∀ i a,ms[i]?=some a→ms[i+1]?=some a→False)↔ms.Nodup:=by
 induction ms with
 | nil=>simp
 | cons x ms ih =>
  rw [List.pairwise_cons] at hs
  rw [List.nodup_cons,← ih hs.2]
  constructor
  ·intro h
   refine ⟨fun hx=>?_,fun i a e1 e2=>h (i+1) a (by simpa using e1) (by simpa using e2)⟩
   cases ms with
   | nil=>cases hx
   | cons y ms =>
    have h1:x≤y:=hs.1 y (.head _)
    have h2:y≤x:=by
     rcases List.mem_cons.mp hx with rfl | hx
     ·exact Int.le_refl _
     ·exact (List.pairwise_cons.mp hs.2).1 x hx
    have:x=y:=Int.le_antisymm h1 h2
    exact h 0 x rfl (by simp [this])
  ·rintro ⟨h1,h2⟩ i a e1 e2
   cases i with
   | zero =>
    simp at e1 e2
    subst e1
    exact h1 (List.mem_of_getElem? e2)
   | succ i=>exact h2 i a (by simpa using e1) (by simpa using e2)
theorem user_ge {p q:Int×Int} (hp:EndOk p) (hq:EndOk q):(Builtin.Bytes.order (users.getD p.1.toNat []).toArray.toList (users.getD q.1.toNat []).toArray.toList != .lt)=decide (q.1≤p.1):=by
 have:=user_ord ⟨p.1.toNat,by (refine' (?_:_→_→_) hp.1 hp.2.1; lia)⟩ ⟨q.1.toNat,by (refine' (?_:_→_→_) hq.1 hq.2.1; lia)⟩
 have hp0:=hp.1
 have hq0:=hq.1
 simp only at this ⊢
 rw [this]
 by_cases a1:p.1.toNat < q.1.toNat
 ·have:¬ q.1≤p.1:=by (revert hp0 a1 hq0; lia)
  simp [a1,this]
 ·have h2:q.1≤p.1:=by (revert hp0 a1 hq0; lia)
  by_cases a2:q.1.toNat < p.1.toNat
  ·simp [a1,a2,h2]
  ·simp [a1,a2,h2]
noncomputable def adjOk (k:Nat) (b m:Mt):Prop:=if k=0 then b.n < m.n else b.hi.1 < m.lo.1
noncomputable def fileOk (k:Nat) (fs:List Mt) (i:Nat):Prop:=∀ m,fs[i]?=some m→cmpE m.lo m.hi≤0∧(0 < i→∀ b,fs[i-1]?=some b→adjOk k b m)
noncomputable def chkOk (fss:List (List Mt)):Prop:=(fss.flatten.map (·.n)).Nodup∧∀ k fs,fss[k]?=some fs→∀ i,fileOk k fs i
section
variable {c:Ctx} {n:Nat} {σ W:Sto} {Q:KV} {R:Sto→Prop} {H:List (Addr×O)}
theorem ok_check (x:Cx c) (A:At σ W H) {v io fl sc:Addr} {nl:Nat} {sl:Int} {las:List Addr} {fss:List (List Mt)} (hv:σ v=some (.inst 466 (verF nl io fl sc sl))) (hfl:σ fl=some (.list (las.map V.ref))) (hL:Levs σ las fss) (ho:OrdAt σ io)
  (hz:fss.flatten.length < 64) (hn:fss.length=nl) (hn2:nl≤100) (of:∀ fs∈fss,∀ y∈fs,MtOk y)
  (q:chkOk fss→∀ σ',At σ' W H→Q .none σ') (e:¬ chkOk fss→∀ σ',At σ' W H→R σ'):Call c (n+6) (.ref 463) [.ref v] σ Q R:=by
 refine Call.go x (fn_Version_check x) fun Φ r=>?_
 refine (let M0:Loc:=_; (?_:SS _ _ M0 _ _ _))
 walk_at "go"
 refine SE_meth0 r.ok rfl ?_
 walk_at "go"
 refine me0_ r.cx hv rfl ?_
 refine ok_numbers r.cx A hv hfl hL hz fun σ₁ na ms A1 l1 hp hs=>?_
 have hv1:=l1 _ _ hv
 have hfl1:=l1 _ _ hfl
 have hL1:=hL.mono l1
 have ho1:=ho.mono l1
 have hna:σ₁ na=some (.list (ms.map V.int)):=A1.get (.head _)
 have A0:At σ₁ W H:=A1.sub (List.sublist_cons_self _ _)
 have hml:ms.length < 64:=by rw [hp.length_eq,List.length_map]; exact hz
 have hmb:∀ (i:Nat) (a:Int),ms[i]?=some a→a.natAbs < 10 ^ 10:=by
  intro i a ea
  have:a∈fss.flatten.map (·.n):=hp.mem_iff.mp (List.mem_of_getElem? ea)
  obtain ⟨y,hy,rfl⟩:=List.mem_map.mp this
  obtain ⟨fs,hfs,hy⟩:=List.mem_flatten.mp hy
  have:=of fs hfs y hy
  have h1:=this.n0
  have h2:=this.n1
  (revert h1 h2; lia)
 have hnd:ms.Nodup↔(fss.flatten.map (·.n)).Nodup:=hp.nodup_iff
 refine (let M1:Loc:=_; st_ (M':=M1) rfl ?_)
 walk_at "s"
 refine X_forr2 ?_
 walk_at "go"
 refine b_len_list hna (by simp; (revert hml; lia)) ?_
 rw [List.length_map]
 refine ⟨1,_,rfl,rfl,by lia,by lia,by (revert hml; lia),by (revert hml; lia),?_⟩
 suffices main:∀ (k j:Nat) (o1:Option V),ms.length-(j+1)=k→(∀ i a,i < j→ms[i]?=some a→ms[i+1]?=some a→False)→ForG Φ _ _ (fun _=>True) _ _ (rng ((j:Int)+1) ms.length) [some (.ref v),some (.ref na),o1,none,none,none,none] σ₁ from
  main _ 0 none rfl (fun _ _ h=>(Nat.not_lt_zero _ h).elim)
 intro k
 induction k with
 | zero =>
  intro j o1 hk hj
  rw [rng_nil (by (revert hk; lia))]
  refine ⟨trivial,?_⟩
  have nd:(fss.flatten.map (·.n)).Nodup:=by
   rw [← hnd,← sorted_nodup hs]
   intro i a e1 e2
   have:=(List.getElem?_eq_some_iff.mp e2).1
   exact hj i a (by (revert hk this; lia)) e1 e2
  walk_at "s"
  refine X_forr ?_
  refine E_at ?_
  walk_at "go"
  refine at_ r.cx hv1 rfl ?_
  refine ⟨nl,rfl,by (revert hn hn2; lia),by (revert hn hn2; lia),?_⟩
  suffices outer:∀ (k j:Nat) (o1 o2 o3 o4 o5:Option V),nl-j=k→(∀ k' fs,k' < j→fss[k']?=some fs→∀ i,fileOk k' fs i)→ForG Φ _ _ (fun _=>True) _ _ (rng (j:Int) nl) [some (.ref v),some (.ref na),o1,o2,o3,o4,o5] σ₁ from
   outer _ 0 o1 none none none none rfl (fun _ _ h=>(Nat.not_lt_zero _ h).elim)
  intro k
  induction k with
  | zero =>
   intro j o1 o2 o3 o4 o5 hk hj
   rw [rng_nil (by (revert hk; lia))]
   refine ⟨trivial,?_⟩
   walk_at "go"
   refine q ⟨nd,fun k' fs hf=>hj k' fs ?_ hf⟩ σ₁ A0
   have:=(List.getElem?_eq_some_iff.mp hf).1
   (revert hn hk this; lia)
  | succ k ih =>
   intro j o1 o2 o3 o4 o5 hk hj
   rw [rng_cons (by (revert hk; lia))]
   refine ⟨trivial,?_⟩
   refine (let M1:Loc:=_; let F1:KF:=_; SG_n (M':=M1) (K:=kSb _ _ F1 _) r.toRun rfl ?_)
   have hjl:j < fss.length:=by (revert hn hk; lia)
   have efs:fss[j]?=some fss[j]:=List.getElem?_eq_getElem hjl
   obtain ⟨a,vs,ea,hva,hra,hvz⟩:=hL1.at efs
   have hofs:∀ y∈fss[j],MtOk y:=of _ (List.getElem_mem hjl)
   generalize hfs:fss[j]=fs at efs hra hofs
   have hll:=hL1.length
   walk_at "go"
   refine E_sub ?_
   refine E_at ?_
   walk_at "go"
   refine at_ r.cx hv1 rfl ?_
   walk_at "go"
   refine ⟨.ref a,.list hfl1 (by lia) (by (refine' (?_:_→_→_→_→_) hn hn2 hjl hll; lia)) (by simp [ea]),?_⟩
   refine (let M1:Loc:=_; st_ (M':=M1) rfl ?_)
   walk_at "s"
   refine X_forr ?_
   walk_at "go"
   refine b_len_list hva (by (revert hvz; lia)) ?_
   have hvl:vs.length=fs.length:=by rw [hra.length,List.length_map]
   rw [hvl]
   refine ⟨_,rfl,by (revert hvz hvl; lia),by (revert hvz hvl; lia),?_⟩
   suffices inner:∀ (k2 i:Nat) (o1 o4 o5:Option V),fs.length-i=k2→(∀ i',i' < i→fileOk j fs i')→ForG Φ _ _ (fun _=>True) _ _ (rng (i:Int) fs.length) [some (.ref v),some (.ref na),o1,some (.int j),some (.ref a),o4,o5] σ₁ from
    inner _ 0 o1 o4 o5 rfl (fun _ h=>(Nat.not_lt_zero _ h).elim)
   intro k2
   induction k2 with
   | zero =>
    intro i o1 o4 o5 hk2 hi
    rw [rng_nil (a:=(i:Int)) (b:=fs.length) (by (revert hk2; lia))]
    refine ⟨trivial,?_⟩
    walk_at "s"
    have:=ih (j+1) o1 (some (.int j)) (some (.ref a)) o4 o5 (by (refine' (?_:_→_→_→_→_) hn hk hjl hll; lia)) (by
     intro k' fs' hk' hf' i'
     rcases Nat.lt_succ_iff_lt_or_eq.mp hk' with hk' | rfl
     ·exact hj k' fs' hk' hf' i'
     ·rw [efs] at hf'; cases hf'
      by_cases hlt:i' < i
      ·exact hi i' hlt
      ·intro m hm
       rw [List.getElem?_eq_none (by (refine' (?_:_→_→_→_→_→_) hn hll hk2 hjl hlt; lia))] at hm; cases hm)
    simpa using this
   | succ k2 ih2 =>
    intro i o1 o4 o5 hk2 hi
    rw [rng_cons (a:=(i:Int)) (b:=fs.length) (by (revert hk2; lia))]
    refine ⟨trivial,?_⟩
    refine (let M1:Loc:=_; let F1:KF:=_; SG_n (M':=M1) (K:=kSb _ _ F1 _) r.toRun rfl ?_)
    have hil:i < fs.length:=by (revert hk2; lia)
    have em:fs[i]?=some fs[i]:=List.getElem?_eq_getElem hil
    obtain ⟨w,ew,rw'⟩:=hra.at (i:=i) (x:=fmD fs[i]) (by rw [List.getElem?_map,em]; rfl)
    obtain ⟨fa,rfl,hfa⟩:=rw'
    have hm:MtOk fs[i]:=hofs _ (List.getElem_mem hil)
    generalize hmt:fs[i]=mt at em hfa hm
    walk_at "go"
    refine E_sub ?_
    walk_at "go"
    refine ⟨.ref fa,.list hva (by lia) (by (refine' (?_:_→_→_→_) hvz hvl hil; lia)) (by simpa using ew),?_⟩
    refine (let M1:Loc:=_; st_ (M':=M1) rfl ?_)
    have num:∀ {fb:Addr} {mb:Mt} {M:Loc} {np p:Pos} {y:Str} {Q':KV} {R':KL},σ₁ fb=some (.inst 340 (fmF mb))→Var [(Str.ofString "self",none),(Str.ofString "numbers",none),(Str.ofString "i",none),(Str.ofString "level",none),(Str.ofString "files",none),(Str.ofString "meta",none),(Str.ofString "before",none)] M y (.ref fb)→Q' (.int mb.n) σ₁→SE Φ (.Attribute (.Name y np) (Str.ofString "number") p) M σ₁ Q' R':=by
     intro fb mb M np p y Q' R' h1 h2 h3
     refine E_at ?_
     refine SE_nm r.toRun h2 ?_
     exact at_ r.cx h1 rfl h3
    have nb:mt.n.natAbs < 10 ^ 10:=by (refine' (?_:_→_→_) hm.n0 hm.n1; lia)
    obtain ⟨uo,u1,u2⟩:=id ho1
    walk_at "go"
    refine SE_meth r.ok rfl rfl rfl ?_
    refine E_at ?_
    walk_at "go"
    refine at_ r.cx hv1 rfl ?_
    refine me_ r.cx u1 rfl ?_
    walk_at "go"
    refine E_at ?_
    walk_at "go"
    refine at_ r.cx hfa rfl ?_
    walk_at "go"
    refine E_at ?_
    walk_at "go"
    refine at_ r.cx hfa rfl ?_
    walk_at "go"
    refine ok_IO_compare r.cx ho1 hm.lo hm.hi ?_
    walk_at "go"
    refine ct_ ?_
    by_cases c1:0 < cmpE mt.lo mt.hi
    ·refine if_t c1 ?_
     walk_at "s"
     refine SX_rs ?_
     walk_at "s"
     walk_at "s"
     walk_at "s"
     refine num hfa (lk_var rfl) ?_
     refine ⟨_,rfl,nb,?_⟩
     walk_at "s"
     walk_at "s"
     intro out
     refine e (fun hc=>?_) _ A0
     have:=(hc.2 j fs efs i mt em).1
     (revert c1 this; lia)
    ·refine if_f c1 ?_
     walk_at "s"
     walk_at "go"
     refine ct_ ?_
     by_cases c2:i=0
     ·refine ite_pos (by simpa using c2) ?_
      walk_at "s"
      refine SX_cont ?_
      have:=ih2 (i+1) (some (.int i)) (some (.ref fa)) o5 (by (refine' (?_:_→_→_→_→_→_) hvz hvl hk2 hil c2; lia)) (by
       intro i' hi'
       rcases Nat.lt_succ_iff_lt_or_eq.mp hi' with hi' | rfl
       ·exact hi i' hi'
       ·intro m hm'
        rw [em] at hm'; cases hm'
        exact ⟨by (refine' (?_:_→_) c1; lia),fun h0=>absurd h0 (by (revert c2; lia))⟩)
      simpa using this
     ·refine ite_neg (by simpa using c2) ?_
      walk_at "s"
      have hbl:i-1 < fs.length:=by (refine' (?_:_→_) hil; lia)
      have eb:fs[i-1]?=some fs[i-1]:=List.getElem?_eq_getElem hbl
      obtain ⟨w2,ew2,rw2⟩:=hra.at (i:=i-1) (x:=fmD fs[i-1]) (by rw [List.getElem?_map,eb]; rfl)
      obtain ⟨fb,rfl,hfb⟩:=rw2
      have hbm:MtOk fs[i-1]:=hofs _ (List.getElem_mem hbl)
      generalize hbt:fs[i-1]=bt at eb hfb hbm
      have nb2:bt.n.natAbs < 10 ^ 10:=by (refine' (?_:_→_→_) hbm.n0 hbm.n1; lia)
      have next:adjOk j bt mt→ForG Φ _ _ (fun _=>True) _ _ (rng ((i:Int)+1) fs.length) [some (.ref v),some (.ref na),some (.int i),some (.int j),some (.ref a),some (.ref fa),some (.ref fb)] σ₁:=fun had=>by
       have:=ih2 (i+1) (some (.int i)) (some (.ref fa)) (some (.ref fb)) (by (refine' (?_:_→_→_→_) hk2 hil c2; lia)) (by
        intro i' hi'
        rcases Nat.lt_succ_iff_lt_or_eq.mp hi' with hi' | rfl
        ·exact hi i' hi'
        ·intro m hm'
         rw [em] at hm'; cases hm'
         refine ⟨by (revert c1; lia),fun h0 b hb=>?_⟩
         rw [eb] at hb; cases hb
         exact had)
       simpa using this
      walk_at "go"
      refine E_sub ?_
      walk_at "go"
      refine bo_ ?_
      refine ⟨.ref fb,.list hva (by (refine' (?_:_→_) c2; lia)) (by (refine' (?_:_→_→_→_) hvz hvl hil; lia)) (by
       rw [show ((i:Int)-1).toNat=i-1 by lia]; exact ew2),?_⟩
      refine (let M1:Loc:=_; st_ (M':=M1) rfl ?_)
      walk_at "go"
      refine ct_ ?_
      by_cases c3:j=0
      ·refine ite_pos (by simpa using c3) ?_
       walk_at "go"
       refine num hfb (lk_var rfl) ?_
       refine num hfa (lk_var rfl) ?_
       refine ct_ ?_
       by_cases c4:mt.n≤bt.n
       ·refine if_t c4 ?_
        walk_at "s"
        refine SX_rs ?_
        walk_at "go"
        refine e (fun hc=>?_) _ A0
        have:=(hc.2 j fs efs i mt em).2 (by (revert c2; lia)) bt eb
        unfold adjOk at this
        rw [if_pos c3] at this
        (revert c4 this; lia)
       ·refine if_f c4 ?_
        walk_at "s"
        walk_at "s"
        walk_at "s"
        exact next (by unfold adjOk; rw [if_pos c3]; (revert c4; lia))
      ·refine ite_neg (by simpa using c3) ?_
       obtain ⟨kb1,kb2,kb3⟩:=key_size hbm.hi
       obtain ⟨km1,km2,km3⟩:=key_size hm.lo
       walk_at "go"
       refine E_at ?_
       walk_at "go"
       refine at_ r.cx hfb rfl ?_
       walk_at "go"
       refine ok_user_of r.cx kb1 kb2 ?_
       walk_at "go"
       refine E_at ?_
       walk_at "go"
       refine at_ r.cx hfa rfl ?_
       walk_at "go"
       refine ok_user_of r.cx km1 km2 ?_
       refine cop_bytes ?_
       rw [key_user hbm.hi,key_user hm.lo]
       refine ⟨_,rfl,?_⟩
       rw [user_ge hbm.hi hm.lo]
       by_cases c4:mt.lo.1≤bt.hi.1
       ·refine if_t c4 ?_
        walk_at "s"
        refine SX_rs ?_
        walk_at "s"
        walk_at "s"
        walk_at "s"
        refine num hfb (lk_var rfl) ?_
        refine ⟨_,rfl,nb2,?_⟩
        walk_at "s"
        walk_at "s"
        refine num hfa (lk_var rfl) ?_
        refine ⟨_,rfl,nb,?_⟩
        walk_at "s"
        walk_at "s"
        walk_at "go"
        refine ⟨_,rfl,by (refine' (?_:_→_→_→_→_) hn hn2 hjl hll; lia),?_⟩
        walk_at "s"
        intro out
        refine e (fun hc=>?_) _ A0
        have:=(hc.2 j fs efs i mt em).2 (by (revert c2 c3 kb1 kb2 km1 km2; lia)) bt eb
        unfold adjOk at this
        rw [if_neg c3] at this
        (revert c4 this; lia)
       ·refine if_f c4 ?_
        walk_at "s"
        walk_at "s"
        walk_at "s"
        exact next (by unfold adjOk; rw [if_neg c3]; (revert c4; lia))
 | succ k ih =>
  intro j o1 hk hj
  rw [rng_cons (by (revert hk; lia))]
  refine ⟨trivial,?_⟩
  refine (let M1:Loc:=_; let F1:KF:=_; SG_n (M':=M1) (K:=kSb _ _ F1 _) r.toRun rfl ?_)
  have hj1:j < ms.length:=by (revert hk; lia)
  have hj2:j+1 < ms.length:=by (revert hk hj1; lia)
  have e1:ms[j]?=some ms[j]:=List.getElem?_eq_getElem hj1
  have e2:ms[j+1]?=some ms[j+1]:=List.getElem?_eq_getElem hj2
  have s1:Sub σ₁ (.ref na) (.int ((j:Int)+1-1)) (.int ms[j]):=.list hna (by lia) (by (refine' (?_:_→_→_) hml hj2; lia)) (by
   rw [List.getElem?_map,show ((j:Int)+1-1).toNat=j by lia,e1]; rfl)
  have s2:Sub σ₁ (.ref na) (.int ((j:Int)+1)) (.int ms[j+1]):=.list hna (by lia) (by (refine' (?_:_→_→_) hml hj2; lia)) (by
   rw [List.getElem?_map,show ((j:Int)+1).toNat=j+1 by lia,e2]; rfl)
  walk_at "go"
  refine E_sub ?_
  walk_at "go"
  refine bop_int ⟨_,s1,?_⟩ (by simp)
  refine E_sub ?_
  walk_at "go"
  refine ⟨_,s2,?_⟩
  refine ct_ ?_
  by_cases h:ms[j]=ms[j+1]
  ·refine if_t h ?_
   walk_at "s"
   refine SX_rs ?_
   walk_at "s"
   walk_at "s"
   walk_at "s"
   refine E_sub ?_
   walk_at "go"
   refine ⟨_,s2,_,rfl,hmb _ _ e2,?_⟩
   walk_at "s"
   walk_at "s"
   intro out
   refine e (fun hc=>?_) _ A0
   have:=(sorted_nodup hs).mpr (hnd.mpr hc.1) j ms[j] e1 (by rw [e2,h])
   exact this
  ·refine if_f h ?_
   walk_at "s"
   walk_at "s"
   have:=ih (j+1) (some (.int ((j:Int)+1))) (by (refine' (?_:_→_→_→_→_) hk hj1 hj2 h; lia)) (by
    intro i a hi f1 f2
    rcases Nat.lt_succ_iff_lt_or_eq.mp hi with hi | rfl
    ·exact hj i a hi f1 f2
    ·rw [e1] at f1; rw [e2] at f2
     exact h ((Option.some.inj f1).trans (Option.some.inj f2).symm))
   simpa using this
end
theorem mem_relabel {scope:Scope} {env:Env} {x:Str} (h:(x,NameKind.local)∈scope.names):(x,NameKind.local)∈(relabel scope env).names:=by
 refine List.mem_map.mpr ⟨(x,.local),h,?_⟩
 rfl
theorem CompOk.plain {Φ:Act} {xs:List Str} {scope:Scope} (h1:∀ x∈scope.names,x.2≠.free:=by decide +kernel) (h2:scope.kind=.function:=by rfl) (h3:∀ x∈scope.names,x.2=.local→scope.names.lookup x.1=some .local:=by decide +kernel) (h4:∀ x∈scope.names,x.2≠.cell:=by decide +kernel)
  (h5:(scope.names.map (·.1)).Nodup:=by decide +kernel) (h6:∀ x∈xs,(x,NameKind.local)∈scope.names:=by decide +kernel) (h7:xs.Nodup:=by decide +kernel) (h8:∀ v∈scope.names,(v.1 == ("__debug__" : Str))=false:=by decide +kernel):CompOk Φ false xs scope [] where
 clos:=closureFor_none h1
 kind:=h2
 names:=h3
 noCell:=h4
 nms:=h5
 locs:=fun x hx=>mem_relabel (h6 x hx)
 caps:=fun h=>by cases h
 vnd:=by
  unfold compVars
  simp only [Bool.false_eq_true,if_false,List.append_nil,List.map_map]
  rw [show ((fun x:Str×Option Addr=>x.1) ∘ fun x:Str=>((x,none):Str×Option Addr))=id from rfl,List.map_id]
  exact h7
 dbg:=h8
theorem InComp.run {Φ Φ':Act} {n:Nat} {xs:List Str} {scope:Scope} {cl:List (Str×Addr)} {vs:Vars} {sc:Scope} (r:Run Φ n vs sc) (i:InComp Φ n false xs scope cl Φ'):Run Φ' n (xs.map fun x=>(x,none)) (relabel scope Φ.env):=by
 refine ⟨i.ok,i.vars.trans ?_,?_,i.ctx▸r.cx⟩
 ·unfold compVars; simp
 ·obtain ⟨C,e⟩:=i.env; rw [e]; rfl
theorem globalImplicit_relabel {scope:Scope} {env:Env} {x:Str} (h:decide ((x,NameKind.globalImplicit)∈scope.names)=true):decide ((x,NameKind.globalImplicit)∈(relabel scope env).names)=true:=by
 refine decide_eq_true (List.mem_map.mpr ⟨(x,.globalImplicit),of_decide_eq_true h,rfl⟩)
theorem swaps_true {Φ:Act} {n:Nat} {vs:Vars} {sc:Scope} (r:RunF Φ n vs sc) {t:Str} {pos p:Pos} {e:Expr} {g:List Comprehension} {s:Scope} {line:Nat} (hk:decide (sc.names.lookup t=some .local)=true) (hp:(pos.line == p.line)=true)
  (hn:(s.names.any fun x=>x.1 == t && (x.2 == .local || x.2 == .cell))=false):swapsWith (.ListComp e g s p) (some (.Name t pos)) line Φ.env=pure true:=by
 have h1:(Φ.env.blockKind == .function)=true:=by rw [r.blk]; rfl
 have h2:(Φ.env.kindOf t == some .local)=true:=by
  show (Φ.env.scope.names.lookup t == some .local)=true
  rw [r.scope,of_decide_eq_true hk]; rfl
 show pure (Φ.env.blockKind == .function && Φ.env.kindOf t == some .local && pos.line == p.line && !(s.names.any fun x=>x.1 == t && (x.2 == .local || x.2 == .cell)))=pure true
 rw [h1,h2,hp,hn]; rfl
section
variable {c:Ctx} {n:Nat} {σ W:Sto} {Q:KV} {R:Sto→Prop} {H:List (Addr×O)}
noncomputable def levD (ls:List (List Mt)):D:=.lst (ls.map fun fs=>.lst (fs.map mtD))
theorem comp_rows {Φ:Act} {m:Nat} {sc:Scope} (r:Run Φ (m+2) [(Str.ofString "files",none)] sc) {a:Addr} {vs:List V} {fs:List Mt} {scope:Scope} {p1 p2 p3 p4 p5 p6:Pos} {Q:KV} {R:KL}
  (hm:∀ env:Env,∃ pl:Sem Bool,eval (.Call (.Attribute (.Name (Str.ofString "meta") p1) (Str.ofString "row") p2) [] [] p3) env=(do
   let ov ← eval (.Name (Str.ofString "meta") p1) env
   standAt p2.atName
   let (f,first) ← holding [ov] (getMethod ov (Str.ofString "row") pl)
   callWith p3 f first (backTo p3 (starEach [] env)) []))
  (co:CompOk Φ false [Str.ofString "meta"] scope []) (A:At σ W H) (ha:σ a=some (.list vs)) (hr:Reps σ (fs.map fmD) vs) (hz:vs.length≤1000)
  (q:∀ σ' W' D,W.le W'→σ.le σ'→At σ' W' H→Rep W' (.lst (fs.map rowD)) (.ref D)→Q (.ref D) σ') :
  SE Φ (.ListComp (.Call (.Attribute (.Name (Str.ofString "meta") p1) (Str.ofString "row") p2) [] [] p3) [⟨.Name (Str.ofString "meta") p4,.Name (Str.ofString "files") p5,[],0⟩] scope p6) [some (.ref a)] σ Q R:=by
 refine SE_comp_list (n:=m+1) (b:=false) (xs:=[Str.ofString "meta"]) (cl:=[]) r.ok co rfl (by intros; rfl) ?_
 walk_at "go"
 refine ⟨a,vs,rfl,ha,fun Φ' i=>?_⟩
 have r':=i.run r
 simp only [List.map_cons,List.map_nil] at r'
 suffices main:∀ (rest:List V) (done todo:List Mt) (acc:List V) (σ₁ W₁:Sto),fs=done++todo→W.le W₁→σ.le σ₁→At σ₁ W₁ H→Reps σ (todo.map fmD) rest→Reps W₁ (done.map rowD) acc→CG Φ' _ _ [] (fun σ=>σ a=some (.list vs)) (capM Φ false [some (.ref a)]) 1 (fun acc σ'=>∀ a,σ' a=none→Q (.ref a) (σ'.set a (.list acc))) rest acc σ₁ from
  main vs [] fs [] σ W rfl (Sto.le_refl _) (Sto.le_refl _) A hr rfl
 intro rest
 induction rest with
 | nil =>
  intro done todo acc σ₁ W₁ h1 hW hσ A1 h2 hacc
  obtain rfl:=list_end h2
  rw [List.append_nil] at h1
  subst h1
  refine ⟨hσ _ _ ha,fun D hD=>?_⟩
  refine q _ _ D (hW.trans' (A1.newle hD)) (hσ.trans' (Sto.le_set hD)) (A1.newF hD) ?_
  exact ⟨D,acc,rfl,Sto.set_same,hacc.mono (A1.newle hD)⟩
 | cons w rest ih =>
  intro done todo acc σ₁ W₁ h1 hW hσ A1 h2 hacc
  obtain ⟨p,ra,rfl,⟨fa,rfl,hfa⟩,h2c⟩:=list_more h2
  refine ⟨hσ _ _ ha,?_,fun tv htv=>?_⟩
  ·have h1':=hacc.length
   have h2':=hr.length
   simp only [List.length_map,h1,List.length_append] at h1' h2'
   (revert hz h1' h2'; lia)
  obtain ⟨t0,rfl⟩:=len1 htv
  refine SG_name' r' (stK_ok (M:=[t0]) rfl) ?_
  refine ⟨[some (.ref fa)],rfl,rfl,CT_nil ?_⟩
  obtain ⟨pl,hpl⟩:=hm Φ'.env
  refine SE_meth0 r'.ok hpl ?_
  walk_at "go"
  refine me0_ r'.cx (hσ _ _ hfa) rfl ?_
  refine ok_FileMeta_row r'.cx (hσ _ _ hfa) fun t1 ht1=>?_
  refine ih (done++[p]) ra _ _ _ (by rw [h1]; simp) (hW.trans' (A1.newle ht1)) (hσ.trans' (Sto.le_set ht1)) (A1.newF ht1) h2c ?_
  rw [List.map_append]
  refine (hacc.mono (A1.newle ht1)).snoc ?_
  exact ⟨t1,_,rfl,Sto.set_same,_,_,rfl,rfl,_,_,rfl,rfl,_,_,rfl,rfl,_,_,rfl,rfl,rfl⟩
end
section
variable {c:Ctx} {n:Nat} {σ W:Sto} {Q:KV} {R:Sto→Prop} {H:List (Addr×O)}
theorem comp_want {Φ:Act} {m:Nat} {sc:Scope} (r:Run Φ (m+2) [(Str.ofString "files",none)] sc) {a:Addr} {vs:List V} {fs:List Mt} {scope:Scope} {p1 p2 p3 p4 p5 p6 p7 p8 p9 p10 p11 p12 p13 p14 p15 p16 p17 p18 p19 p20:Pos} {k1 k2 k3 k4 k5:Nat} {Q:KV} {R:KL}
  (hx:decide ((Str.ofString "_law_ikey",NameKind.globalImplicit)∈scope.names)=true)
  (co:CompOk Φ false [Str.ofString "meta"] scope []) (A:At σ W H) (ha:W a=some (.list vs)) (hr:Reps W (fs.map mtD) vs) (of:∀ y∈fs,MtOk y) (hz:vs.length≤1000)
  (q:∀ σ' W' D,W.le W'→At σ' W' H→Rep W' (.lst (fs.map rowD)) (.ref D)→Q (.ref D) σ') :
  SE Φ (.ListComp (.Tuple [.Subscript (.Name (Str.ofString "meta") p1) (.Constant (.int 0) k1 p2) p3,.Subscript (.Name (Str.ofString "meta") p4) (.Constant (.int 1) k2 p5) p6,
   .Call (.Name (Str.ofString "_law_ikey") p7) [.Subscript (.Name (Str.ofString "meta") p8) (.Constant (.int 2) k3 p9) p10] [] p11,
   .Call (.Name (Str.ofString "_law_ikey") p12) [.Subscript (.Name (Str.ofString "meta") p13) (.Constant (.int 3) k4 p14) p15] [] p16] k5 p17) [⟨.Name (Str.ofString "meta") p18,.Name (Str.ofString "files") p19,[],0⟩] scope p20) [some (.ref a)] σ Q R:=by
 refine SE_comp_list (n:=m+1) (b:=false) (xs:=[Str.ofString "meta"]) (cl:=[]) r.ok co rfl (by intros; rfl) ?_
 walk_at "go"
 refine ⟨a,vs,rfl,A.fz ha,fun Φ' i=>?_⟩
 have r':=i.run r
 simp only [List.map_cons,List.map_nil] at r'
 suffices main:∀ (rest:List V) (done todo:List Mt) (acc:List V) (σ₁ W₁:Sto),fs=done++todo→W.le W₁→At σ₁ W₁ H→Reps W (todo.map mtD) rest→Reps W₁ (done.map rowD) acc→CG Φ' _ _ [] (fun σ=>σ a=some (.list vs)) (capM Φ false [some (.ref a)]) 1 (fun acc σ'=>∀ a,σ' a=none→Q (.ref a) (σ'.set a (.list acc))) rest acc σ₁ from
  main vs [] fs [] σ W rfl (Sto.le_refl _) A hr rfl
 intro rest
 induction rest with
 | nil =>
  intro done todo acc σ₁ W₁ h1 hW A1 h2 hacc
  obtain rfl:=list_end h2
  rw [List.append_nil] at h1
  subst h1
  refine ⟨A1.fz (hW _ _ ha),fun D hD=>?_⟩
  refine q _ _ D (hW.trans' (A1.newle hD)) (A1.newF hD) ?_
  exact ⟨D,acc,rfl,Sto.set_same,hacc.mono (A1.newle hD)⟩
 | cons w rest ih =>
  intro done todo acc σ₁ W₁ h1 hW A1 h2 hacc
  obtain ⟨p,ra,rfl,hp,h2c⟩:=list_more h2
  obtain ⟨fa,lo,hi,rfl,g1,g2,g3⟩:=rep_mt.mp hp
  have om:MtOk p:=of p (by rw [h1]; simp)
  refine ⟨A1.fz (hW _ _ ha),?_,fun tv htv=>?_⟩
  ·have h1':=hacc.length
   have h2':=hr.length
   simp only [List.length_map,h1,List.length_append] at h1' h2'
   (revert hz h1' h2'; lia)
  obtain ⟨t0,rfl⟩:=len1 htv
  refine SG_name' r' (stK_ok (M:=[t0]) rfl) ?_
  refine ⟨[some (.ref fa)],rfl,rfl,CT_nil ?_⟩
  refine SE_tuple (by simp) ?_
  walk_at "go"
  refine E_sub ?_
  walk_at "go"
  refine ⟨_,.tuple (A1.fz (hW _ _ g1)) (by lia) (by lia) rfl,?_⟩
  walk_at "go"
  refine E_sub ?_
  walk_at "go"
  refine ⟨_,.tuple (A1.fz (hW _ _ g1)) (by lia) (by lia) rfl,?_⟩
  walk_at "s"
  refine SE_cl r' (globalImplicit_relabel hx) (r'.cx.g rfl) (r'.cx.k (s:=Str.ofString "_law_ikey") rfl) rfl rfl ?_
  walk_at "go"
  refine E_sub ?_
  walk_at "go"
  refine ⟨_,.tuple (A1.fz (hW _ _ g1)) (by lia) (by lia) rfl,?_⟩
  walk_at "go"
  refine ok_law_ikey r'.cx A1 om.lo (A1.fz (hW _ _ g2)) fun σ₂ A2 l2=>?_
  walk_at "s"
  refine SE_cl r' (globalImplicit_relabel hx) (r'.cx.g rfl) (r'.cx.k (s:=Str.ofString "_law_ikey") rfl) rfl rfl ?_
  walk_at "go"
  refine E_sub ?_
  walk_at "go"
  refine ⟨_,.tuple (A2.fz (hW _ _ g1)) (by lia) (by lia) rfl,?_⟩
  walk_at "go"
  refine ok_law_ikey r'.cx A2 om.hi (A2.fz (hW _ _ g3)) fun σ₃ A3 l3=>?_
  walk_at "go"
  refine ⟨by simp,fun t1 ht1=>?_⟩
  refine ih (done++[p]) ra _ _ _ (by rw [h1]; simp) (hW.trans' (A3.newle ht1)) (A3.newF ht1) h2c ?_
  rw [List.map_append]
  refine (hacc.mono (A3.newle ht1)).snoc ?_
  exact ⟨t1,_,rfl,Sto.set_same,_,_,rfl,rfl,_,_,rfl,rfl,_,_,rfl,rfl,_,_,rfl,rfl,rfl⟩
end
section
variable {c:Ctx} {n:Nat} {σ W:Sto} {Q:KV} {R:Sto→Prop} {H:List (Addr×O)}
noncomputable def rowsD (ls:List (List Mt)):D:=.lst (ls.map fun fs=>.lst (fs.map rowD))
theorem kin_row (a b:Mt):kin 1 (rowD a) (rowD b):=by
 simp [rowD]
theorem kin_rows (a b:List (List Mt)):kin 3 (rowsD a) (rowsD b):=by
 refine .lst fun p hp=>?_
 obtain ⟨h1,h2⟩:=List.of_mem_zip hp
 obtain ⟨x,_,e1⟩:=List.mem_map.mp h1
 obtain ⟨y,_,e2⟩:=List.mem_map.mp h2
 rw [← e1,← e2]
 refine .lst fun q hq=>?_
 obtain ⟨g1,g2⟩:=List.of_mem_zip hq
 obtain ⟨u,_,f1⟩:=List.mem_map.mp g1
 obtain ⟨w,_,f2⟩:=List.mem_map.mp g2
 rw [← f1,← f2]
 exact kin_row u w
theorem ok_law_shows (x:Cx c) (A:At σ W H) {v io fl sc:Addr} {nl sl:Int} {las:List Addr} {fss ls:List (List Mt)} {lv:V} (hv:σ v=some (.inst 466 (verF nl io fl sc sl))) (hfl:σ fl=some (.list (las.map V.ref))) (hL:Levs σ las fss) (hl:Rep W (levD ls) lv)
  (of:∀ fs∈ls,∀ y∈fs,MtOk y) (hz:las.length≤1000) (hz2:ls.length≤1000) (hz3:∀ fs∈ls,fs.length≤1000)
  (q:∀ σ' b,(b=true↔rowsD fss=rowsD ls)→At σ' W H→Q (.bool b) σ'):Call c (n+3) (.ref 583) [.ref v,lv] σ Q R:=by
 refine Call.go x (fn__law_shows x) fun Φ r=>?_
 walk_at "s"
 refine SX_comp_list (n:=n+1) (b:=false) (xs:=[Str.ofString "files"]) (cl:=[]) r.ok .plain (swaps_true r (by decide +kernel) rfl (by decide +kernel)) rfl (by intros; rfl) ?_
 refine E_at ?_
 walk_at "go"
 refine at_ r.cx hv rfl ?_
 refine ⟨fl,las.map V.ref,rfl,hfl,fun Φ' i=>?_⟩
 have r':=i.run r.toRun
 simp only [List.map_cons,List.map_nil] at r'
 suffices main:∀ (rest:List Addr) (done todo:List (List Mt)) (acc:List V) (σ₁ W₁:Sto),fss=done++todo→W.le W₁→σ.le σ₁→At σ₁ W₁ H→Levs σ rest todo→Reps W₁ (done.map fun fs=>Mine.Internal.D.lst (fs.map rowD)) acc→acc.length+rest.length≤1000→CG Φ' _ _ [] (fun σ=>σ fl=some (.list (las.map V.ref))) (capM Φ false [some (.ref v),some lv,none]) 1 _ (rest.map V.ref) acc σ₁ from
  main las [] fss [] σ W rfl (Sto.le_refl _) (Sto.le_refl _) A hL rfl (by simpa using hz)
 intro rest
 induction rest with
 | nil =>
  intro done todo acc σ₁ W₁ h1 hW hσ A1 h2 hacc hlen
  obtain rfl:=h2.none
  rw [List.append_nil] at h1
  subst h1
  refine ⟨hσ _ _ hfl,fun D hD=>?_⟩
  have A2:=A1.newF (o:=.list acc) hD
  have hrows:Rep (W₁.set D (.list acc)) (rowsD fss) (.ref D):=by
   exact ⟨D,acc,rfl,Sto.set_same,hacc.mono (A1.newle hD)⟩
  have hW2:W.le (W₁.set D (.list acc)):=hW.trans' (A1.newle hD)
  refine ⟨_,by rw [r.vars]; exact stK_ok rfl,?_⟩
  generalize σ₁.set D (.list acc)=σ₂ at A2
  generalize W₁.set D (.list acc)=W₂ at A2 hrows hW2
  walk_at "go"
  refine SE_comp_list (n:=n+1) (b:=false) (xs:=[Str.ofString "files"]) (cl:=[]) r.ok .plain rfl (by intros; rfl) ?_
  walk_at "go"
  have hl2:=hl.mono hW2
  obtain ⟨la,lvs,rfl,hla,hlr⟩:=hl2
  refine ⟨la,lvs,rfl,A2.fz hla,fun Φ'' i2=>?_⟩
  have r'':=i2.run r.toRun
  simp only [List.map_cons,List.map_nil] at r''
  suffices main2:∀ (rest:List V) (done todo:List (List Mt)) (acc:List V) (σ₃ W₃:Sto),ls=done++todo→W₂.le W₃→At σ₃ W₃ H→Reps W₂ (todo.map fun fs=>Mine.Internal.D.lst (fs.map mtD)) rest→Reps W₃ (done.map fun fs=>Mine.Internal.D.lst (fs.map rowD)) acc→CG Φ'' _ _ [] (fun σ=>σ la=some (.list lvs)) (capM Φ false [some (.ref v),some (.ref la),some (.ref D)]) 1 _ rest acc σ₃ from
   main2 lvs [] ls [] σ₂ W₂ rfl (Sto.le_refl _) A2 hlr rfl
  intro rest
  induction rest with
  | nil =>
   intro done todo acc σ₃ W₃ h1 hW3 A3 h2 hacc
   obtain rfl:=list_end h2
   rw [List.append_nil] at h1
   subst h1
   refine ⟨A3.fz (hW3 _ _ hla),fun D2 hD2=>?_⟩
   have A4:=A3.newF (o:=.list acc) hD2
   have hwant:Rep (W₃.set D2 (.list acc)) (rowsD ls) (.ref D2):=by
    exact ⟨D2,acc,rfl,Sto.set_same,hacc.mono (A3.newle hD2)⟩
   have hrows2:=hrows.mono (hW3.trans' (A3.newle (o:=.list acc) hD2))
   refine cop_eq_rep (bb:=@decide (rowsD fss=rowsD ls) (Classical.propDecidable _)) r.ok 3 (by lia) (kin_rows _ _) (hrows2.mono A4.le) (hwant.mono A4.le) (by simp) ?_
   refine q _ _ (by simp) ⟨?_,A4.has,fun p hp=>?_,A4.nd⟩
   ·exact (hW2.trans' (hW3.trans' (A3.newle hD2))).trans' A4.le
   ·have:=A4.off p hp
    cases e:W p.1 with
    | none=>rfl
    | some o=>rw [(hW2.trans' (hW3.trans' (A3.newle hD2))) _ _ e] at this; cases this
  | cons w rest ih =>
   intro done todo acc σ₃ W₃ h1 hW3 A3 h2 hacc
   obtain ⟨p,ra,rfl,⟨fa,fvs,rfl,hfa,hfr⟩,h2c⟩:=list_more h2
   have hpm:p∈ls:=by rw [h1]; simp
   refine ⟨A3.fz (hW3 _ _ hla),?_,fun tv htv=>?_⟩
   ·have h1':=hacc.length
    simp only [List.length_map] at h1'
    have:ls.length=done.length+(ra.length+1):=by rw [h1]; simp
    (revert hz2 h1' this; lia)
   obtain ⟨t0,rfl⟩:=len1 htv
   refine SG_name' r'' (stK_ok (M:=[t0]) rfl) ?_
   refine ⟨[some (.ref fa)],rfl,rfl,CT_nil ?_⟩
   refine comp_want r'' (by decide +kernel) .plain A3 (hW3 _ _ hfa) (hfr.mono hW3) (of _ hpm) (by have h1:=hfr.length; simp only [List.length_map] at h1; (refine' (?_:_→_→_) h1 (hz3 _ hpm); lia)) fun σ₄ W₄ D4 L4 A4 hr4=>?_
   refine ih (done++[p]) ra _ _ _ (by rw [h1]; simp) (hW3.trans' L4) A4 h2c ?_
   rw [List.map_append]
   exact (hacc.mono L4).snoc hr4
 | cons a rest ih =>
  intro done todo acc σ₁ W₁ h1 hW hσ A1 h2 hacc hlen
  obtain ⟨fs,fss',vs,rfl,ha,hr,hvz,h2⟩:=h2.un
  refine ⟨hσ _ _ hfl,by (revert hlen; lia),fun tv htv=>?_⟩
  obtain ⟨t0,rfl⟩:=len1 htv
  refine SG_name' r' (stK_ok (M:=[t0]) rfl) ?_
  refine ⟨[some (.ref a)],rfl,rfl,CT_nil ?_⟩
  refine comp_rows r' (fun env=>⟨_,rfl⟩) .plain A1 (hσ _ _ ha) (hr.mono hσ) hvz fun σ₂ W₂ D2 L2 l2 A2 hr2=>?_
  refine ih (done++[fs]) fss' _ _ _ (by rw [h1]; simp) (hW.trans' L2) (hσ.trans' l2) A2 h2 ?_ (by simp at hlen ⊢; (revert hlen; lia))
  rw [List.map_append]
  exact (hacc.mono L2).snoc hr2
end
section
variable {c:Ctx} {n:Nat} {σ W:Sto} {Q:KV} {R:Sto→Prop} {H:List (Addr×O)}
theorem ok_law_spoil (x:Cx c) {v io fl sc:Addr} {nl sl:Int} {ps:List (Addr×List V)} (A:At σ W ((v,.inst 466 (verF nl io fl sc sl))::(fl,.list (ps.map fun p=>V.ref p.1))::((ps.map fun p=>(p.1,O.list p.2))++H)))
  (hz:∀ p∈ps,p.2.length≤1000) (q:∀ σ' W',W.le W'→At σ' W' H→Q .none σ'):Call c (n+4) (.ref 609) [.ref v] σ Q R:=by
 refine Call.go x (fn__law_spoil x) fun Φ r=>?_
 walk_at "s"
 refine X_for ?_
 refine E_at ?_
 walk_at "go"
 refine at_ r.cx (A.get (.head _)) rfl ?_
 refine ⟨fl,ps.map fun p=>V.ref p.1,rfl,?_⟩
 suffices main:∀ (rest:List (Addr×List V)) (σ₁ W₁:Sto) (o1:Option V),W.le W₁→(∀ p∈rest,p.2.length≤1000)→At σ₁ W₁ ((fl,.list (ps.map fun p=>V.ref p.1))::((rest.map fun p=>(p.1,O.list p.2))++H)) →
   ForG Φ _ _ (fun σ=>σ fl=some (.list (ps.map fun p=>V.ref p.1))) _ _ (rest.map fun p=>V.ref p.1) [some (.ref v),o1] σ₁ from
  main ps σ W none (Sto.le_refl _) hz (A.sub (List.sublist_cons_self _ _))
 intro rest
 induction rest with
 | nil =>
  intro σ₁ W₁ o1 hW _ A
  refine ⟨A.get (.head _),?_⟩
  walk_at "go"
  exact q _ _ hW (A.sub (List.sublist_cons_self _ _))
 | cons p rest ih =>
  intro σ₁ W₁ o1 hW hz A
  obtain ⟨a,vs⟩:=p
  have hvz:vs.length≤1000:=hz (a,vs) (.head _)
  refine ⟨A.get (.head _),?_⟩
  refine (let M1:Loc:=_; let F1:KF:=_; SG_n (M':=M1) (K:=kSb _ _ F1 _) r.toRun rfl ?_)
  simp only [List.map_cons,List.cons_append] at A
  have A:=A.perm (List.Perm.swap _ _ _)
  have ha:=A.get (.head _)
  have go:∀ {σ₂ W₂:Sto} {o:O},W₁.le W₂→At σ₂ W₂ ((a,o)::(fl,.list (ps.map fun p=>V.ref p.1))::((rest.map fun p=>(p.1,O.list p.2))++H))→ForG Φ _ _ (fun σ=>σ fl=some (.list (ps.map fun p=>V.ref p.1))) _ _ (rest.map fun p=>V.ref p.1) [some (.ref v),some (.ref a)] σ₂:=fun L A2 =>
   ih _ _ _ (hW.trans' L) (fun p hp=>hz p (.tail _ hp)) (A2.sub (List.sublist_cons_self _ _))
  walk_at "go"
  refine b_len_list ha (by (revert hvz; lia)) ?_
  walk_at "go"
  refine ct_ ?_
  rcases List.eq_nil_or_concat vs with rfl | ⟨us,u,rfl⟩
  ·refine if_F ?_
   walk_at "s"
   refine X_ex ?_
   refine E_app ?_
   walk_at "go"
   refine ⟨a,_,rfl,ha,?_⟩
   walk_at "go"
   refine SE_tuple (by simp) ?_
   walk_at "go"
   refine ⟨_,rfl,?_⟩
   walk_at "go"
   refine ⟨by simp,fun t1 ht1=>?_⟩
   have A2:=A.newF (o:=.tuple [.int 0,.int (-1)]) ht1
   have L2:=A.newle (o:=.tuple [.int 0,.int (-1)]) ht1
   walk_at "go"
   refine ok_law_ikey (p:=(0,-1)) r.cx A2 (by unfold EndOk; lia) Sto.set_same fun σ₃ A3 l3=>?_
   walk_at "go"
   refine SE_tuple (by simp) ?_
   walk_at "go"
   refine ⟨_,rfl,?_⟩
   walk_at "go"
   refine ⟨by simp,fun t2 ht2=>?_⟩
   have A4:=A3.newF (o:=.tuple [.int 0,.int (-1)]) ht2
   have L4:=A3.newle (o:=.tuple [.int 0,.int (-1)]) ht2
   walk_at "go"
   refine ok_law_ikey (p:=(0,-1)) r.cx A4 (by unfold EndOk; lia) Sto.set_same fun σ₅ A5 l5=>?_
   walk_at "go"
   refine ok_FileMeta r.cx fun fm hfm=>?_
   have A6:=A5.newF (o:=.inst 340 [(Str.ofString "number",.int 99),(Str.ofString "size",.int 99),(Str.ofString "smallest",.bytes (key (0,-1))),(Str.ofString "largest",.bytes (key (0,-1)))]) hfm
   have L6:=A5.newle (o:=.inst 340 [(Str.ofString "number",.int 99),(Str.ofString "size",.int 99),(Str.ofString "smallest",.bytes (key (0,-1))),(Str.ofString "largest",.bytes (key (0,-1)))]) hfm
   walk_at "go"
   refine l_append (A6.get (.head _)) (by simp) ?_
   have A7:=A6.upd (o':=.list ([]++[.ref fm]))
   walk_at "go"
   exact go (L2.trans' (L4.trans' L6)) A7
  ·refine ite_pos (by simp) ?_
   walk_at "s"
   refine X_ex ?_
   refine SE_lmeth0 r.ok PySem.F.slot_list_pop rfl rfl ?_
   walk_at "go"
   refine ⟨a,_,rfl,ha,?_⟩
   rw [List.concat_eq_append] at ha hvz
   refine l_pop ha (by simp at hvz; (revert hvz; lia)) ?_
   have A7:=A.upd (o':=.list us)
   walk_at "go"
   exact go (Sto.le_refl _) A7
end
section
variable {c:Ctx} {n:Nat} {σ W:Sto} {Q:KV} {R:Sto→Prop} {H:List (Addr×O)}
noncomputable def octs (fss:List (List Mt)) (k:Nat):Int:=((fss.getD k []).map (·.s)).sum
noncomputable def best (fss:List (List Mt)) (lt bb lf:Int):Nat→Int×Int×Int
 | 0=>((fss.getD 0 []).length,lt,0)
 | k+1=>let b:=best fss lt bb lf k
  if b.1*(bb*lf ^ k) < octs fss (k+1)*b.2.1 then (octs fss (k+1),bb*lf ^ k,(k:Int)+1) else b
theorem ok_score_of (x:Cx c) {v io fl sc o hv:Addr} {nl:Nat} {sl lt bb lf:Int} {las:List Addr} {fss:List (List Mt)} (A:At σ W ((v,.inst 466 (verF nl io fl sc sl))::H))
  (hO:(o,O.inst 305 (optF hv nl lt bb lf))∈H) (hfl:(fl,O.list (las.map V.ref))∈H) (hL:∀ σ',At σ' W H→Levs σ' las fss) (h0:0 < fss.length) (hn:fss.length=nl) (hn2:nl≤10) (b0:0≤bb) (b1:bb≤100) (f0:0≤lf) (f1:lf≤3)
  (hb:∀ k,(best fss lt bb lf k).1.natAbs < 1000000∧(best fss lt bb lf k).2.1.natAbs < 1000000000) (hoc:∀ k,(octs fss k).natAbs < 1000000)
  (q:∀ σ' W' t,W.le W'→W' t=some (.tuple [.int (best fss lt bb lf (nl-2)).1,.int (best fss lt bb lf (nl-2)).2.1])→At σ' W' ((v,.inst 466 (verF nl io fl t (best fss lt bb lf (nl-2)).2.2))::H)→Q (.ref t) σ'):Call c (n+4) (.ref 540) [.ref v,.ref o] σ Q R:=by
 refine Call.go x (fn_score_of x) fun Φ r=>?_
 refine (let M0:Loc:=_; (?_:SS _ _ M0 _ _ _))
 have hL0:=hL σ (A.sub (List.sublist_cons_self _ _))
 have hlen:=hL0.length
 have hvσ:=A.get (.head _)
 have hOσ:=A.get (.tail _ hO)
 have hflσ:=A.get (.tail _ hfl)
 have files:∀ {M:Loc} {np p:Pos} {Q':KV} {R':KL} {os:List (Option V)},Q' (.ref fl) σ→SE Φ (.Attribute (.Name (Str.ofString "version") np) (Str.ofString "files") p) (some (.ref v)::some (.ref o)::os) σ Q' R':=by
  intro M np p Q' R' os h
  refine E_at ?_
  walk_at "go"
  exact at_ r.cx hvσ rfl h
 have opt:∀ {M:Loc} {np p:Pos} {y:Str} {u:V} {Q':KV} {R':KL} {os:List (Option V)},FldOk Φ.toCtx 305 y→FGet (optF hv nl lt bb lf) y u→(∀ w,u≠.oth w)→Q' u σ→SE Φ (.Attribute (.Name (Str.ofString "options") np) y p) (some (.ref v)::some (.ref o)::os) σ Q' R':=by
  intro M np p y u Q' R' os h1 h2 h3 h4
  refine E_at ?_
  walk_at "go"
  exact ⟨_,_,_,u,rfl,hOσ,h1,h2,h3,h4⟩
 walk_at "go"
 refine files (M:=[]) ?_
 walk_at "go"
 refine b_len_list hflσ (by simp; (revert h0 hn hn2 hlen; lia)) ?_
 walk_at "go"
 refine ct_ ?_
 refine ite_neg (by simp; intro e; rw [e] at hlen; simp at hlen; (revert h0 hn hn2 hlen; lia)) ?_
 walk_at "s"
 walk_at "go"
 refine E_sub ?_
 refine files (M:=[]) ?_
 walk_at "go"
 obtain ⟨a0,vs0,g1,g2,g3,g4⟩:=hL0.at (k:=0) (fs:=fss.getD 0 []) (by rw [List.getD_eq_getElem?_getD,List.getElem?_eq_getElem h0]; rfl)
 refine ⟨.ref a0,.list hflσ (by lia) (by lia) (by simp [g1]),?_⟩
 walk_at "go"
 refine b_len_list g2 (by (revert g4; lia)) ?_
 have e0:vs0.length=(fss.getD 0 []).length:=by rw [g3.length,List.length_map]
 rw [e0]
 refine (let M1:Loc:=_; st_ (M':=M1) rfl ?_)
 walk_at "go"
 refine opt (M:=[]) (u:=.int lt) (r.cx.fld rfl) (lkp_get rfl) (noth rfl) ?_
 refine (let M1:Loc:=_; st_ (M':=M1) rfl ?_)
 walk_at "go"
 refine (let M1:Loc:=_; st_ (M':=M1) rfl ?_)
 walk_at "s"
 refine X_forr2 ?_
 walk_at "go"
 refine opt (M:=[]) (u:=.int nl) (r.cx.fld rfl) (lkp_get rfl) (noth rfl) ?_
 walk_at "go"
 refine bop_int ⟨1,_,rfl,rfl,by lia,by lia,by (revert h0 hn hn2 hlen; lia),by (revert h0 hn hn2 hlen; lia),?_⟩ (by simp)
 suffices main:∀ (k j:Nat) (o1 o2 o3:Option V),nl-2-j=k→j≤nl-2→ForG Φ _ _ (fun _=>True) _ _ (rng ((j:Int)+1) ((nl:Int)-1)) [some (.ref v),some (.ref o),some (.int (best fss lt bb lf j).1),some (.int (best fss lt bb lf j).2.1),some (.int (best fss lt bb lf j).2.2),o1,o2,o3] σ from
  main _ 0 none none none rfl (by lia)
 intro k
 induction k with
 | zero =>
  intro j o1 o2 o3 hk hj
  rw [rng_nil (by (revert h0 hn hn2 hlen hk; lia))]
  have:j=nl-2:=by (revert hn hlen hk hj; lia)
  subst this
  refine ⟨trivial,?_⟩
  walk_at "s"
  refine X_sa ?_
  refine SE_tuple (by simp) ?_
  walk_at "go"
  refine ⟨by simp,fun t ht=>?_⟩
  have A2:=A.newF (o:=.tuple [.int (best fss lt bb lf (nl-2)).1,.int (best fss lt bb lf (nl-2)).2.1]) ht
  have L2:=A.newle (o:=.tuple [.int (best fss lt bb lf (nl-2)).1,.int (best fss lt bb lf (nl-2)).2.1]) ht
  walk_at "go"
  refine sa_ r.cx (A2.get (.head _)) rfl ?_
  have A3:=A2.upd (o':=.inst 466 (verF nl io fl t sl))
  walk_at "s"
  refine X_sa ?_
  walk_at "go"
  refine sa_ r.cx (A3.get (.head _)) rfl ?_
  have A4:=A3.upd (o':=.inst 466 (verF nl io fl t (best fss lt bb lf (nl-2)).2.2))
  walk_at "go"
  refine E_at ?_
  walk_at "go"
  refine at_ r.cx (A4.get (.head _)) rfl ?_
  exact q _ _ t L2 Sto.set_same A4
 | succ k ih =>
  intro j o1 o2 o3 hk hj
  rw [rng_cons (by (revert h0 hn hn2 hlen hk hj; lia))]
  refine ⟨trivial,?_⟩
  refine (let M1:Loc:=_; let F1:KF:=_; SG_n (M':=M1) (K:=kSb _ _ F1 _) r.toRun rfl ?_)
  obtain ⟨a1,vs1,y1,y2,y3,y4⟩:=hL0.at (k:=j+1) (fs:=fss.getD (j+1) []) (by rw [List.getD_eq_getElem?_getD,List.getElem?_eq_getElem (by (revert h0 hn hn2 hlen hk hj; lia))]; rfl)
  walk_at "go"
  refine SE_meth r.ok rfl rfl rfl ?_
  walk_at "go"
  refine me_ r.cx hvσ rfl ?_
  walk_at "go"
  refine ok_level_octets (k:=j+1) r.cx hvσ hflσ y1 (by (revert h0 hn hn2 hlen; lia)) y2 y3 ?_
  refine (let M1:Loc:=_; st_ (M':=M1) rfl ?_)
  walk_at "go"
  refine ok_max_octets_of (lvl:=j+1) r.cx hOσ (by lia) (by (revert h0 hn hn2 hlen hj; lia)) b0 b1 f0 f1 ?_
  refine st_ rfl ?_
  rw [show j+1-1=j by lia]
  show SS Φ _ [some (.ref v),some (.ref o),some (.int (best fss lt bb lf j).1),some (.int (best fss lt bb lf j).2.1),some (.int (best fss lt bb lf j).2.2),some (.int ((j:Int)+1)),some (.int (octs fss (j+1))),some (.int (bb*lf ^ j))] _ _ _
  walk_at "go"
  refine mul_ (mulOk (Nat.lt_trans (hoc _) (by decide))) ?_
  walk_at "go"
  refine mul_ (mulOk (Nat.lt_trans (hb j).1 (by decide))) ?_
  refine ct_ ?_
  by_cases h:(best fss lt bb lf j).1*(bb*lf ^ j) < octs fss (j+1)*(best fss lt bb lf j).2.1
  ·refine if_t h ?_
   have eb:best fss lt bb lf (j+1)=(octs fss (j+1),bb*lf ^ j,(j:Int)+1):=by
    show (if _ then _ else _)=_
    rw [if_pos h]
   walk_at "go"
   refine (let M1:Loc:=_; st_ (M':=M1) rfl ?_)
   walk_at "go"
   refine (let M1:Loc:=_; st_ (M':=M1) rfl ?_)
   walk_at "go"
   refine (let M1:Loc:=_; st_ (M':=M1) rfl ?_)
   walk_at "go"
   have:=ih (j+1) (some (.int ((j:Int)+1))) (some (.int (octs fss (j+1)))) (some (.int (bb*lf ^ j))) (by (revert h0 hn hn2 hlen hk hj; lia)) (by (revert h0 hn hn2 hlen hk hj; lia))
   rw [eb] at this
   simpa using this
  ·refine if_f h ?_
   have eb:best fss lt bb lf (j+1)=best fss lt bb lf j:=by
    show (if _ then _ else _)=_
    rw [if_neg h]
   walk_at "s"
   walk_at "s"
   have:=ih (j+1) (some (.int ((j:Int)+1))) (some (.int (octs fss (j+1)))) (some (.int (bb*lf ^ j))) (by (revert h0 hn hn2 hlen hk hj; lia)) (by (revert h0 hn hn2 hlen hk hj; lia))
   rw [eb] at this
   simpa using this
end
section
variable {σ:Sto}
theorem rep_wd {w:Wd} {v:V}:Rep σ (wdD w) v↔∃ a mv,v=.ref a∧σ a=some (.tuple [.int w.k,.int w.l,.int w.n,mv])∧Rep σ (omD w.m) mv:=by
 constructor
 ·rintro ⟨a,vs,rfl,h,v1,w1,rfl,rfl,v2,w2,rfl,rfl,v3,w3,rfl,rfl,v4,w4,rfl,hr,rfl⟩; exact ⟨a,v4,rfl,h,hr⟩
 ·rintro ⟨a,mv,rfl,h,hr⟩; exact ⟨a,_,rfl,h,_,_,rfl,rfl,_,_,rfl,rfl,_,_,rfl,rfl,mv,_,rfl,hr,rfl⟩
noncomputable def gget {α:Type} (kvs:List (Int×α)) (k:Int):Option α:=(kvs.find? fun p=>p.1=k).map (·.2)
noncomputable def gset {α:Type} (kvs:List (Int×α)) (k:Int) (v:α):List (Int×α):=if kvs.any (fun p=>p.1=k) then kvs.map (fun p=>if p.1=k then (p.1,v) else p) else kvs++[(k,v)]
noncomputable def gdel {α:Type} (kvs:List (Int×α)) (k:Int):List (Int×α):=kvs.filter fun p=>decide (p.1≠k)
theorem dget_g (kvs:List (Int×V)) (k:Int):dget kvs k=gget kvs k:=rfl
theorem dset_g (kvs:List (Int×V)) (k:Int) (v:V):dset kvs k v=gset kvs k v:=rfl
theorem ddel_g (kvs:List (Int×V)) (k:Int):ddel kvs k=gdel kvs k:=rfl
class inductive AR (σ:Sto):List (Int×V)→List (Int×Mt)→Prop
 | nil:AR σ [] []
 | cons {k f m kvs ms}:σ f=some (.inst 340 (fmF m))→AR σ kvs ms→AR σ ((k,.ref f)::kvs) ((k,m)::ms)
theorem AR.mono {σ':Sto} (l:σ.le σ') {kvs:List (Int×V)} {ms:List (Int×Mt)} (x:AR σ kvs ms):AR σ' kvs ms:=by
 induction x with
 | nil=>exact .nil
 | cons h _ ih=>exact .cons (l _ _ h) ih
variable {kvs:List (Int×V)} {ms:List (Int×Mt)} {k:Int}
theorem AR.keys (x:AR σ kvs ms):kvs.map (·.1)=ms.map (·.1):=by
 induction x with
 | nil=>rfl
 | cons h _ ih=>rw [List.map_cons,List.map_cons,ih]
theorem AR.del (x:AR σ kvs ms):AR σ (gdel kvs k) (gdel ms k):=by
 induction x with
 | nil=>exact .nil
 | @cons k' f m kvs ms h r ih =>
  unfold gdel at ih ⊢
  rw [List.filter_cons,List.filter_cons]
  by_cases e:decide (k'≠k)=true
  ·rw [if_pos e,if_pos e]; exact .cons h ih
  ·rw [if_neg e,if_neg e]; exact ih
theorem AR.get (x:AR σ kvs ms) {m:Mt} (e:gget ms k=some m):∃ f,gget kvs k=some (.ref f)∧σ f=some (.inst 340 (fmF m)):=by
 induction x with
 | nil=>cases e
 | @cons k' f m kvs ms h r ih =>
  unfold gget at ih e ⊢
  by_cases q:k'=k
  ·have e1:∀ {β:Type} (x:β) (l),List.find? (fun p:Int×β=>decide (p.1=k)) ((k',x)::l)=some (k',x):=fun x l=>List.find?_cons_of_pos (decide_eq_true q)
   rw [e1] at e ⊢
   cases e
   exact ⟨f,rfl,h⟩
  ·have e1:∀ {β:Type} (x:β) (l),List.find? (fun p:Int×β=>decide (p.1=k)) ((k',x)::l)=List.find? (fun p:Int×β=>decide (p.1=k)) l:=fun x l=>List.find?_cons_of_neg fun h=>q (of_decide_eq_true h)
   rw [e1] at e ⊢
   exact ih e
variable {f:Addr} {m:Mt}
theorem AR.snoc (hf:σ f=some (.inst 340 (fmF m))) (x:AR σ kvs ms):AR σ (kvs++[(k,.ref f)]) (ms++[(k,m)]):=by
 induction x with
 | nil=>exact .cons hf .nil
 | cons h _ ih=>exact .cons h ih
theorem AR.rep (hf:σ f=some (.inst 340 (fmF m))) (x:AR σ kvs ms):AR σ (kvs.map fun p=>if p.1=k then (p.1,.ref f) else p) (ms.map fun p=>if p.1=k then (p.1,m) else p):=by
 induction x with
 | nil=>exact .nil
 | @cons k' f m kvs ms h r ih =>
  rw [List.map_cons,List.map_cons]
  by_cases e:k'=k
  ·rw [if_pos e,if_pos e]; exact .cons hf ih
  ·rw [if_neg e,if_neg e]; exact .cons h ih
theorem AR.any (x:AR σ kvs ms):(kvs.any fun p=>p.1=k)=(ms.any fun p=>p.1=k):=by
 induction x with
 | nil=>rfl
 | cons h _ ih=>rw [List.any_cons,List.any_cons,ih]
theorem AR.set (hf:σ f=some (.inst 340 (fmF m))) (r:AR σ kvs ms):AR σ (gset kvs k (.ref f)) (gset ms k m):=by
 unfold gset
 rw [r.any]
 split
 ·exact r.rep hf
 ·exact r.snoc hf
end
section
variable {N:Nat} {c:Nat→Nat→Bool} {cmp:Nat→Nat→(Bool→Shared→Prop)→Shared→Prop} {s:Shared} {p:Array Nat}
structure TotL (N:Nat) (c:Nat→Nat→Bool):Prop where
 tr:∀ i j k,i < N→j < N→k < N→c i j=true→c j k=true→c i k=true
 tot:∀ i j,i < N→j < N→i≠j→c i j=false→c j i=true
 asym:∀ i j,i < N→j < N→c i j=true→c j i=false
structure PermOk (N:Nat) (p:Array Nat):Prop where
 perm:p.toList.Perm (List.range N)
theorem PermOk.size (h:PermOk N p):p.size=N:=by have:=h.perm.length_eq; simpa using this
theorem PermOk.lt (h:PermOk N p) {i:Nat} (hi:i < N):p.getD i 0 < N:=by
 have hs:=h.size
 have hi':i < p.size:=by (revert hi hs; lia)
 have e:p.getD i 0=p[i]:=by simp [Array.getD,hi']
 rw [e]
 have:p[i]∈List.range N:=h.perm.mem_iff.mp (by simp)
 simpa using this
theorem PermOk.ne (h:PermOk N p) {i j:Nat} (hi:i < N) (hj:j < N) (hn:i≠j):p.getD i 0≠p.getD j 0:=by
 have hs:=h.size
 have hi':i < p.size:=by (revert hi hs; lia)
 have hj':j < p.size:=by (revert hj hs; lia)
 have e:p.getD i 0=p[i]:=by simp [Array.getD,hi']
 have e2:p.getD j 0=p[j]:=by simp [Array.getD,hj']
 rw [e,e2]
 have nd:p.toList.Nodup:=h.perm.nodup_iff.mpr List.nodup_range
 intro q
 have q':p.toList[i]'(by simpa using hi')=p.toList[j]'(by simpa using hj'):=by simpa using q
 have pw:=List.pairwise_iff_getElem.mp nd
 rcases Nat.lt_or_gt_of_ne hn with g | g
 ·exact pw i j (by simpa using hi') (by simpa using hj') g q'
 ·exact pw j i (by simpa using hj') (by simpa using hi') g q'.symm
theorem PermOk.of {p':Array Nat} (h:PermOk N p) (hp:p'.Perm p):PermOk N p':=⟨(Array.perm_iff_toList_perm.mp hp).trans h.perm⟩
noncomputable def Asc (c:Nat→Nat→Bool) (p:Array Nat) (b:Nat):Prop:=∀ i j,i < j→j < b→c (p.getD i 0) (p.getD j 0)=true
noncomputable def Dsc (c:Nat→Nat→Bool) (p:Array Nat) (b:Nat):Prop:=∀ i j,i < j→j < b→c (p.getD j 0) (p.getD i 0)=true
theorem Asc.succ (t:TotL N c) (hp:PermOk N p) {b:Nat} (h:Asc c p b) (h1:1≤b) (hb:b < N) (e:c (p.getD (b-1) 0) (p.getD b 0)=true):Asc c p (b+1):=by
 intro i j hij hj
 rcases Nat.lt_succ_iff_lt_or_eq.mp hj with hj | rfl
 ·exact h i j hij hj
 ·by_cases q:i=j-1
  ·rw [q]; exact e
  ·exact t.tr _ _ _ (hp.lt (by (revert hij hb; lia))) (hp.lt (by (revert h1 hb; lia))) (hp.lt hb) (h i (j-1) (by (revert hij h1 q; lia)) (by (revert h1; lia))) e
theorem Dsc.succ (t:TotL N c) (hp:PermOk N p) {b:Nat} (h:Dsc c p b) (h1:1≤b) (hb:b < N) (e:c (p.getD b 0) (p.getD (b-1) 0)=true):Dsc c p (b+1):=by
 intro i j hij hj
 rcases Nat.lt_succ_iff_lt_or_eq.mp hj with hj | rfl
 ·exact h i j hij hj
 ·by_cases q:i=j-1
  ·rw [q]; exact e
  ·exact t.tr _ _ _ (hp.lt hb) (hp.lt (by (revert h1 hb; lia))) (hp.lt (by (revert hij hb; lia))) e (h i (j-1) (by (revert hij h1 q; lia)) (by (revert h1; lia)))
theorem Asc.one:Asc c p 1:=fun i j hij hj=>absurd hij (by (revert hj; lia))
noncomputable def AskOk (N:Nat) (c:Nat→Nat→Bool) (cmp:Nat→Nat→(Bool→Shared→Prop)→Shared→Prop) (s:Shared):Prop:=∀ i j C,i < N→j < N→C (c i j) s→cmp i j C s
theorem asc_wp (t:TotL N c) (a:AskOk N c cmp s) (hp:PermOk N p) {Q:Nat→Shared→Prop} (f n:Nat) (h1:1≤n) (hn:n+f≤N) (ha:Asc c p n)
  (q:∀ m,n≤m→m≤n+f→Asc c p m→(m < n+f→c (p.getD m 0) (p.getD (m-1) 0)=true)→Q m s):(kas_asc p f n).kasWp cmp Q s:=by
 induction f generalizing n with
 | zero=>exact q n (Nat.le_refl _) (Nat.le_refl _) ha (fun h=>(Nat.lt_irrefl _ h).elim)
 | succ f ih =>
  refine a _ _ _ (hp.lt (by (revert hn; lia))) (hp.lt (by (revert h1 hn; lia))) ?_
  cases e:c (p.getD n 0) (p.getD (n-1) 0) with
  | true=>exact q n (Nat.le_refl _) (by lia) ha fun _=>e
  | false =>
   show (kas_asc p f (n+1)).kasWp cmp Q s
   refine ih (n+1) (by (revert h1; lia)) (by (revert hn; lia)) (ha.succ t hp h1 (by (revert hn; lia)) (t.tot _ _ (hp.lt (by (revert hn; lia))) (hp.lt (by (revert h1 hn; lia))) (hp.ne (by (revert hn; lia)) (by (revert h1 hn; lia)) (by (revert h1; lia))) e)) fun m l1 l2 l3 l4=>q m (by (revert l1; lia)) (by (revert l2; lia)) l3 fun l=>l4 (by (revert l; lia))
theorem dsc_wp (t:TotL N c) (a:AskOk N c cmp s) (hp:PermOk N p) {Q:Array Nat×Nat×Nat→Shared→Prop} (f n:Nat) (h1:1≤n) (hn:n+f≤N) (ha:Dsc c p n)
  (q:∀ m,n≤m→m≤n+f→Dsc c p m→Q (p,m,0) s):(kas_desc f p n 0).kasWp cmp Q s:=by
 induction f generalizing n with
 | zero=>exact q n (Nat.le_refl _) (Nat.le_refl _) ha
 | succ f ih =>
  refine a _ _ _ (hp.lt (by (revert hn; lia))) (hp.lt (by (revert h1 hn; lia))) ?_
  cases e:c (p.getD n 0) (p.getD (n-1) 0) with
  | true =>
   show (if 0 > 0 then kas_desc f (kas_rev p (n-(0+1)) n) (n+1) 0 else kas_desc f p (n+1) 0).kasWp cmp Q s
   rw [if_neg (by lia)]
   exact ih (n+1) (by (revert h1; lia)) (by (revert hn; lia)) (ha.succ t hp h1 (by (revert hn; lia)) e) fun m l1 l2 l3=>q m (by (revert l1; lia)) (by (revert l2; lia)) l3
  | false =>
   refine a (p.getD (n-1) 0) (p.getD n 0) _ (hp.lt (by (revert h1 hn; lia))) (hp.lt (by (revert hn; lia))) ?_
   rw [t.tot _ _ (hp.lt (by (revert hn; lia))) (hp.lt (by (revert h1 hn; lia))) (hp.ne (by (revert hn; lia)) (by (revert h1 hn; lia)) (by (revert h1; lia))) e]
   exact q n (Nat.le_refl _) (by lia) ha
theorem getD_rev (hb:b≤p.size) (i:Nat):(kas_rev p 0 b).getD i 0=if i < b then p.getD (b-1-i) 0 else p.getD i 0:=by
 have:=getElem?_mirror_all (xs:=p) (i:=0) (j:=b) hb i
 unfold kas_rev
 simp only [Array.getD_eq_getD_getElem?]
 rw [this]
 simp only [Nat.zero_le,true_and,Nat.zero_add]
 split <;> rfl
theorem Dsc.rev {b:Nat} (hb:b≤p.size) (h:Dsc c p b):Asc c (kas_rev p 0 b) b:=by
 intro i j hij hj
 rw [getD_rev hb,getD_rev hb,if_pos (by (revert hij hj; lia)),if_pos hj]
 exact h _ _ (by (revert hij hj; lia)) (by (revert hij hj; lia))
theorem PermOk.rev (h:PermOk N p) (b:Nat):PermOk N (kas_rev p 0 b):=h.of (mirror_perm _ _ _ _)
theorem count_wp (t:TotL N c) (a:AskOk N c cmp s) (hp:PermOk N p) {Q:Nat×Array Nat→Shared→Prop} (h1:1≤N) (q:∀ m p',1≤m→m≤N→PermOk N p'→Asc c p' m→Q (m,p') s):(kas_count N p).kasWp cmp Q s:=by
 unfold kas_count
 rw [KasT.kasWp_bind]
 refine asc_wp t a hp (N-1) 1 (Nat.le_refl _) (by (revert h1; lia)) Asc.one fun n l1 l2 l3 l4=>?_
 by_cases e:(n == N)=true
 ·rw [if_pos e]; exact q n p l1 (by (revert h1 l2; lia)) hp l3
 ·rw [if_neg e]
  have hne:n≠N:=fun z=>e (by rw [z]; simp)
  by_cases e2:n > 1
  ·rw [if_pos e2]
   refine a _ _ _ (hp.lt (by (revert h1; lia))) (hp.lt (by (revert h1 l2 hne e2; lia))) ?_
   rw [l3 0 (n-1) (by (revert e2; lia)) (by (revert e2; lia))]
   exact q n p l1 (by (revert h1 l2; lia)) hp l3
  ·rw [if_neg e2]
   have:n=1:=by (revert l1 e2; lia)
   subst this
   unfold kas_descPart
   rw [KasT.kasWp_bind]
   refine dsc_wp t a hp (N-2) 2 (by lia) (by (revert h1 hne; lia)) (fun i j hij hj=>?_) fun m k1 k2 k3=>?_
   ·have:i=0:=by (revert hij hj; lia)
    have:j=1:=by (revert hij hj this; lia)
    subst i; subst j
    exact l4 (by (revert h1 hne; lia))
   ·dsimp only
    rw [if_neg (by lia)]
    unfold kas_tail3
    rw [KasT.kasWp_bind]
    refine asc_wp t a (hp.rev m) (N-m) m (by (revert k1; lia)) (by (revert h1 hne k2; lia)) (k3.rev (by rw [hp.size]; (revert h1 hne k2; lia))) fun m' g1 g2 g3 _=>?_
    exact q m' _ (by (revert k1 g1; lia)) (by (revert g2 h1 hne k2; lia)) (hp.rev m) g3
theorem place_wp (t:TotL N c) (a:AskOk N c cmp s) (hp:PermOk N p) {k:Nat} (hk:k < N) (hA:Asc c p k) {Q:Nat→Shared→Prop}
  (q:∀ l,l≤k→(∀ i,i < l→c (p.getD i 0) (p.getD k 0)=true)→(∀ i,l≤i→i < k→c (p.getD k 0) (p.getD i 0)=true)→Q l s)
  (f l r:Nat) (h1:l≤r) (h2:r≤k) (h3:r-l≤f) (g1:∀ i,i < l→c (p.getD i 0) (p.getD k 0)=true) (g2:∀ i,r≤i→i < k→c (p.getD k 0) (p.getD i 0)=true):(kas_place p k f l r).kasWp cmp Q s:=by
 induction f generalizing l r with
 | zero =>
  have:r=l:=by (revert h1 h3; lia)
  subst this
  exact q r h2 g1 g2
 | succ f ih =>
  unfold kas_place
  by_cases hlr:l≥r
  ·rw [if_pos hlr]
   have:r=l:=by (revert h1 hlr; lia)
   subst this
   exact q r h2 g1 g2
  ·rw [if_neg hlr]
   refine a _ _ _ (hp.lt hk) (hp.lt (by (revert hk h2 hlr; lia))) ?_
   cases e:c (p.getD k 0) (p.getD ((l+r) / 2) 0) with
   | true =>
    show (kas_place p k f l ((l+r) / 2)).kasWp cmp Q s
    refine ih l ((l+r) / 2) (by (revert hlr; lia)) (by (revert h2 hlr; lia)) (by (revert h3 hlr; lia)) g1 fun i i1 i2=>?_
    by_cases z:i=(l+r) / 2
    ·rw [z]; exact e
    ·exact t.tr _ _ _ (hp.lt hk) (hp.lt (by (revert hk i1 i2; lia))) (hp.lt (by (revert hk i2; lia))) e (hA _ _ (by (revert i1 z; lia)) i2)
   | false =>
    show (kas_place p k f ((l+r) / 2+1) r).kasWp cmp Q s
    have e':=t.tot _ _ (hp.lt hk) (hp.lt (by (revert hk h2 hlr; lia))) (hp.ne hk (show (l+r) / 2 < N by (revert hk h2 hlr; lia)) (by (revert h2 hlr; lia))) e
    refine ih ((l+r) / 2+1) r (by (revert hlr; lia)) (by (revert h2; lia)) (by (revert h3 hlr; lia)) (fun i i1=>?_) g2
    by_cases z:i=(l+r) / 2
    ·rw [z]; exact e'
    ·exact t.tr _ _ _ (hp.lt (by (revert hk h2 hlr i1; lia))) (hp.lt (by (revert hk h2 hlr; lia))) (hp.lt hk) (hA _ _ (by (revert i1 z; lia)) (by (revert h2 hlr; lia))) e'
theorem getD_bubble {k d:Nat} (hs:k < p.size) (hd:d≤k) (i:Nat):(bubble p k d).getD i 0=if i=k-d then p.getD k 0 else if k-d < i∧i≤k then p.getD (i-1) 0 else p.getD i 0:=by
 simp only [Array.getD_eq_getD_getElem?]
 rw [getElem?_bubble hs d hd i]
 split
 ·rfl
 ·split <;> rfl
theorem bin_wp (t:TotL N c) (a:AskOk N c cmp s) {Q:Array Nat→Shared→Prop} (q:∀ p',PermOk N p'→Asc c p' N→Q p' s)
  (f k:Nat) (p:Array Nat) (h1:k+f=N) (h2:1≤k) (hp:PermOk N p) (hA:Asc c p k):(kas_bin f p k).kasWp cmp Q s:=by
 induction f generalizing k p with
 | zero =>
  have:k=N:=by (revert h1; lia)
  subst this
  exact q p hp hA
 | succ f ih =>
  show ((kas_place p k k 0 k).bind fun l=>kas_bin f (bubble p k (k-l)) (k+1)).kasWp cmp Q s
  rw [KasT.kasWp_bind]
  refine place_wp t a hp (by (refine' (?_:_→_) h1; lia)) hA (fun l hl g1 g2=>?_) k 0 k (by (refine' (?_:_→_→_) h1 h2; lia)) (by lia) (by (refine' (?_:_→_→_) h1 h2; lia)) (fun _ h=>(Nat.not_lt_zero _ h).elim) (fun i i1 i2=>absurd i1 (Nat.not_le_of_lt i2))
  refine ih (k+1) _ (by (revert h1; lia)) (by (revert h1 h2; lia)) (hp.of (bubble_perm _ _ _)) fun i j hij hj=>?_
  rw [getD_bubble (by rw [hp.size]; (revert h1; lia)) (by (revert h1 hl; lia)),getD_bubble (by rw [hp.size]; (revert h1; lia)) (by (revert h1 hl; lia))]
  have el:k-(k-l)=l:=by (revert h1 hl; lia)
  rw [el]
  by_cases ei:i=l
  ·rw [if_pos ei,if_neg (by (revert hij el ei; lia)),if_pos (by (revert h1 hij hj el ei; lia))]
   exact g2 _ (by (revert hij el ei; lia)) (by (revert h1 hij hj el ei; lia))
  ·rw [if_neg ei]
   by_cases ei2:l < i∧i≤k
   ·rw [if_pos ei2,if_neg (by (revert hij el ei2; lia)),if_pos (by (revert h1 hij hj el ei2; lia))]
    exact hA _ _ (by (revert hij el ei2; lia)) (by (revert h1 hij hj; lia))
   ·rw [if_neg ei2]
    by_cases ej:j=l
    ·rw [if_pos ej]; exact g1 _ (by (revert hij el ej; lia))
    ·rw [if_neg ej]
     by_cases ej2:l < j∧j≤k
     ·rw [if_pos ej2]
      exact hA _ _ (by (revert hij ei ei2 ej2; lia)) (by (revert h1 hj el ej2; lia))
     ·rw [if_neg ej2]
      exact hA _ _ (by (revert hij; lia)) (by (revert h1 hl hj el ej ej2; lia))
theorem sort_wp (t:TotL N c) (a:AskOk N c cmp s) {Q:Array Nat→Shared→Prop} (h1:1≤N) (q:∀ p',PermOk N p'→Asc c p' N→Q p' s):(kas_sort N).kasWp cmp Q s:=by
 unfold kas_sort
 rw [KasT.kasWp_bind]
 refine count_wp t a ⟨by simp⟩ h1 fun m p' l1 l2 hp hA=>?_
 dsimp only
 by_cases e:m < N
 ·rw [if_pos e]
  have:max m 1=m:=Nat.max_eq_left l1
  rw [this]
  exact bin_wp t a q (N-m) m p' (by (revert e this; lia)) l1 hp hA
 ·rw [if_neg e]
  have:m=N:=by (revert l2 e; lia)
  subst this
  exact q p' hp hA
end
open SeqAt
section
variable {prog:Program} {w:World} {A:Around} {E:Value→Shared→Prop} {s:Shared}
theorem sorted_short {l:Addr} {vs:List Value} {Q:Value→Shared→Prop} (hl:s.heap.IsList l vs.toArray) (h2:vs.length < 2)
  (h:Q (.ref (s.heap.objs.size+1)) { s with heap:=sortedAll s.heap vs vs.toArray }):wpAny (model prog w) A (call (.builtin "sorted") [.ref l]) Q E s:=by
 refine Calls.call_function_entry kind_sorted plain_sorted entry_sorted (args_sorted1 _) ?_
 unfold Builtin.«sorted»
 refine wpAny_bind (m:=checkCount "sorted" 1 1 _) (wpAny_pure ?_)
 refine wpAny_bind (collect_list hl ?_ (by rw [sizeLine_eq]; (revert h2; lia)))
 refine wpAny_bind (wpAny_newList ?_ (by rw [sizeLine_eq]; (revert h2; lia)))
 generalize hh:(s.heap.push (seqObj "list" #[] 0)).update s.heap.objs.size (Obj.mapSeq (·++vs.toArray))=h1
 have hsz:h1.objs.size=s.heap.objs.size+1:=by rw [← hh,Heap.size_update,size_push']
 have ho:(h1.push (seqObj "list" vs.toArray 0)).get? h1.objs.size=some (seqObj "list" vs.toArray 0):=Heap.get?_push_size _ rfl
 show wpAny _ _ _ _ _ { s with heap:=h1.push (seqObj "list" vs.toArray 0) }
 dsimp only
 refine wpAny_bind (wpAny_holding (wpAny_call_entry slot_list_sort ⟨_,ho,rfl⟩ entry_list_sort ?body (args_list_sort _)))
 case body =>
  rw [list_sort_plain]
  have ha:h1.objs.size < (h1.push (seqObj "list" vs.toArray 0)).objs.size:=by rw [size_push']; lia
  refine wpAny_bind (listItems_at ho rfl ?_)
  refine wpAny_bind (listUpdate_at ho rfl ?_)
  obtain ⟨e1,ho1⟩:∃ e1,((h1.push (seqObj "list" vs.toArray 0)).update h1.objs.size (Obj.mapSeq fun _=>#[])).get? h1.objs.size=some (seqObj "list" #[] e1):=⟨_,get?_update_seq ho (fun _=>#[])⟩
  refine wpAny_bind (seqEpoch_at ho1 rfl ?_)
  refine wpAny_bind (wpAny_newTuple ?_)
  refine wpAny_bind (wpAny_newList ?_)
  refine wpAny_holding ?_
  have ho6:((((h1.push (seqObj "list" vs.toArray 0)).update h1.objs.size (Obj.mapSeq fun _=>#[])).push (seqObj "tuple" vs.toArray 0)).push (seqObj "list" #[] 0)).get? h1.objs.size=some (seqObj "list" #[] e1):=by
   rw [Heap.get?_push_ne _ _ _ (by rw [size_push',Heap.size_update]; exact Nat.ne_of_lt (Nat.lt_succ_of_lt ha)),Heap.get?_push_ne _ _ _ (by rw [Heap.size_update]; exact Nat.ne_of_lt ha)]
   exact ho1
  dsimp only
  have hn:vs.toArray.size < 2:=by simpa using h2
  rw [if_pos hn,if_pos hn]
  refine wpAny_bind (wpAny_pure ?_)
  rw [StateT.run_pure]
  refine wpAny_bind (wpAny_pure ?_)
  dsimp only
  have hz:(Array.map (fun x=>x.snd) (arrOf (SortSt.mk' general' (vs.toArray.zip vs.toArray) #[] 7 none)))=vs.toArray:=by
   show Array.map (fun x=>x.snd) (vs.toArray.zip vs.toArray)=vs.toArray
   apply Array.toList_inj.mp
   rw [Array.toList_map,Array.toList_zip]
   exact List.map_snd_zip (Nat.le_refl _)
  rw [hz]
  refine wpAny_bind (seqEpoch_at ho6 rfl ?_)
  refine wpAny_bind (listUpdate_at ho6 rfl ?_ (hsz2:=by rw [sizeLine_eq]; simp; (revert h2; lia)))
  simp only [bne_self_eq_false,Bool.false_eq_true,if_false]
  refine wpAny_pure ⟨_,rfl,wpAny_pure ⟨_,rfl,?_⟩⟩
  rw [← hsz] at h
  unfold sortedAll at h
  rw [hh] at h
  rw [hsz] at h ⊢
  unfold sortedHeap at h
  exact h
end
section
variable {Φ:Act} {n m:Nat} {P:PS} {M M':Loc} {σ:Sto} {Q:KV} {R:KL} {pos:Pos} {k:Nat} {F:KF}
theorem b_sorted_core (ok:Φ.Ok n) {a:Addr} {vs:List V} {c:Nat→Nat→Bool} {κ:SortKind} (e:σ a=some (.list vs)) (h64:vs.length < 64) (t:TotL vs.length c)
  (hkind:2≤vs.length→∀ (s:Shared) (A:Around) (items:List Value) (Qk:SortKind→Shared→Prop),Tied σ Φ.toCtx s.heap→items.map er=vs→Qk κ s→wpAny (model Φ.prog Φ.w) A (keyKind' items.toArray) Qk (fun _ _=>False) s)
  (hask:∀ (s:Shared) (A:Around) (items:List Value),Tied σ Φ.toCtx s.heap→A.units+10 < cLine→items.map er=vs→AskOk vs.length c (kas_ask Φ.prog Φ.w A κ items) s)
  (q:∀ D p,σ D=none→PermOk vs.length p→Asc c p vs.length→Q (.ref D) (σ.set D (.list (p.toList.map fun i=>vs.getD i .none)))) :
  ∀ vals,vals.map er=[.ref a]→SV Φ (call (.builtin "sorted") vals) M σ Q R:=by
 intro vals hv
 refine .mk fun P s y=>?_
 obtain ⟨v,rfl,ev⟩:=map_er1 hv
 have:=er_ref ev; subst this
 obtain ⟨items,hi,hm⟩:=y.list e
 obtain ⟨mm,F,N,fin⟩:=y.newD
 have hlen:items.length=vs.length:=by rw [← hm,List.length_map]
 have hmap:∀ p:Array Nat,(p.toList.map fun i=>items.getD i Value.none).map er=p.toList.map fun i=>vs.getD i V.none:=fun p=>by
  rw [List.map_map]
  refine List.map_congr_left fun i _=>?_
  show er (items.getD i Value.none)=vs.getD i V.none
  rw [← hm,List.getD_eq_getElem?_getD,List.getD_eq_getElem?_getD,List.getElem?_map]
  cases items[i]? <;> rfl
 by_cases h2:2≤vs.length
 ·refine kat_sorted F N hi (by (revert h64 hlen h2; lia)) (by (revert h64 hlen h2; lia)) fun D e1 h' F' N' hlt=>?_
  obtain ⟨hD,y2⟩:=fin D h' [] e1 _ F' N' (fun p hp=>.tail _ hp) (.head _) hlt
  have tied:Tied σ Φ.toCtx h':=(y2.sub (Sto.le_set hD)).tied
  have hu:=ok.units
  refine hkind h2 { s with heap:=h' } _ items _ tied hm ?_
  rw [hlen]
  refine sort_wp t (hask { s with heap:=h' } Φ.A.in1.in1 items tied (by show Φ.A.units+1+1+10 < cLine; unfold cLine; (revert hu; lia)) hm) (by (revert h64 hlen h2; lia)) fun p hp hA=>?_
  refine KasFin.intro (s:={ s with heap:=h' }) F' N' (UpdF.head fun p hp=>Nat.ne_of_lt (hlt p hp)) fun h2' c2 F2 N2=>?_
  obtain ⟨_,y3⟩:=fin D h2' (p.toList.map fun i=>items.getD i Value.none) c2 _ F2 N2 (fun p hp=>.tail _ hp) (.head _) hlt
  rw [hmap] at y3
  exact ⟨⟨rfl,rfl,rfl⟩,_,y3,q D p hD hp hA⟩
 ·refine sorted_short hi (by (revert h64 hlen h2; lia)) ?_
  obtain ⟨e1,he⟩:=sortedAll_at s.heap items items.toArray
  obtain ⟨hD,y3⟩:=fin (s.heap.objs.size+1) _ items e1 _ (F.kept fun _ _=>sortedAll_old) (N.kept_cons F (fun _ _=>sortedAll_old) (Nat.le_succ _) he) (fun p hp=>.tail _ hp) (.head _) (fun p hp=>Nat.lt_succ_of_lt (Heap.lt_size (N p hp).1))
  have:=q (s.heap.objs.size+1) (List.toArray (List.range vs.length)) hD ⟨by simp⟩ (fun i j h1 h3=>absurd h3 (by (revert h1 h2; lia)))
  have e2:((List.toArray (List.range vs.length)).toList.map fun i=>vs.getD i V.none)=vs:=by
   refine List.ext_getElem? fun i=>?_
   rw [List.getElem?_map]
   by_cases hi:i < vs.length
   ·simp [hi,List.getD_eq_getElem?_getD]
   ·simp [hi]
  rw [e2] at this
  rw [hm] at y3
  exact ⟨⟨rfl,rfl,rfl⟩,_,y3,this⟩
theorem tup2_at {s:Shared} {a:Addr} {x y:V} (T:Tied σ Φ.toCtx s.heap) (e:σ a=some (.tuple [x,y])):∃ u v nn dd sl,s.heap.get? a=some { cls:=.type "tuple",dict:=dd,data:=.seq #[u,v] nn,slots:=sl }∧er u=x∧er v=y:=by
 obtain ⟨items,⟨⟨cls,dd,data,sl⟩,ho,hc,nn,hd⟩,r⟩:=T.tuple e
 simp only at hc hd
 subst hc; subst hd
 obtain ⟨v,w,rfl,e1,e2⟩:=map_er2 r
 exact ⟨v,w,nn,dd,sl,ho,e1,e2⟩
theorem item_at {items:List Value} {vs:List V} (hm:items.map er=vs) {i:Nat} {t:Addr} (h:vs[i]?=some (.ref t)):items.getD i Value.none=.ref t:=by
 subst hm
 rw [List.getElem?_map] at h
 rw [List.getD_eq_getElem?_getD]
 cases hx:items[i]? with
 | none=>rw [hx] at h; simp at h
 | some v=>rw [hx] at h; simp only [Option.map_some,Option.some.injEq] at h; exact er_ref h
theorem firsts_at {s:Shared} (T:Tied σ Φ.toCtx s.heap) (items:List Value) (vs:List V) (hv:items.map er=vs) (h:∀ v∈vs,∃ t x y,v=V.ref t∧σ t=some (.tuple [x,y])) :
  ∃ fs:List Value,KatTups s.heap items fs∧fs.length=items.length∧∀ f∈fs,∃ v∈vs,∃ t y,v=V.ref t∧σ t=some (.tuple [er f,y]):=by
 subst hv
 induction items with
 | nil=>exact ⟨[],.nil,rfl,fun f hf=>nm hf⟩
 | cons it items ih =>
  obtain ⟨t,x,y,e1,e2⟩:=h (er it) (.head _)
  have:=er_ref e1; subst this
  obtain ⟨u,v,nn,dd,sl,ho,h1,h2⟩:=tup2_at T e2
  obtain ⟨fs,k1,k2,k3⟩:=ih fun v hv=>h v (.tail _ hv)
  refine ⟨u::fs,KatTups.cons ho rfl rfl rfl k1,by simp [k2],fun f hf=>?_⟩
  rcases List.mem_cons.mp hf with rfl | hf
  ·exact ⟨_,.head _,t,y,rfl,by rw [h1]; exact e2⟩
  ·obtain ⟨v',hv',r⟩:=k3 f hf
   exact ⟨v',.tail _ hv',r⟩
theorem b_sorted_int1 (ok:Φ.Ok n) {a:Addr} {vs:List V} {key:Nat→Int} (e:σ a=some (.list vs)) (h64:vs.length < 64) (hk:∀ i,i < vs.length→∃ t w,vs[i]?=some (V.ref t)∧σ t=some (.tuple [.int (key i),w]))
  (hinj:∀ i j,i < vs.length→j < vs.length→key i=key j→i=j)
  (q:∀ D p,σ D=none→PermOk vs.length p→Asc (fun i j=>decide (key i < key j)) p vs.length→Q (.ref D) (σ.set D (.list (p.toList.map fun i=>vs.getD i .none)))) :
  ∀ vals,vals.map er=[.ref a]→SV Φ (call (.builtin "sorted") vals) M σ Q R:=by
 refine b_sorted_core ok (κ:=tuples' true) e h64 ⟨fun i j k _ _ _ h1 h2=>?_,fun i j hi hj hn h=>?_,fun i j _ _ h=>?_⟩ (fun h2 s A items Qk T hm hq=>?_) (fun s A items T hu hm=>?_) q
 ·simp only [decide_eq_true_eq] at *; (revert h1 h2; lia)
 ·have:key i≠key j:=fun q=>hn (hinj i j hi hj q)
  simp only [decide_eq_true_eq,decide_eq_false_iff_not] at *; (revert this h; lia)
 ·simp only [decide_eq_true_eq,decide_eq_false_iff_not] at *; (revert h; lia)
 ·obtain ⟨fs,k1,k2,k3⟩:=firsts_at T items vs hm fun v hv=>by
   obtain ⟨i,hi,rfl⟩:=List.mem_iff_getElem.mp hv
   obtain ⟨t,w,e1,e2⟩:=hk i hi
   rw [List.getElem?_eq_getElem hi] at e1; injection e1 with e1
   exact ⟨t,_,w,e1,e2⟩
  have hil:items.length=vs.length:=by rw [← hm,List.length_map]
  refine kat_kind (T:=.type "int") k1 (by (revert h64 h2 k2 hil; lia)) (fun f hf=>?_) rfl hq
  obtain ⟨v,hv,t,y,rfl,e2⟩:=k3 f hf
  obtain ⟨i,hi,e3⟩:=List.mem_iff_getElem.mp hv
  obtain ⟨t',w,e4,e5⟩:=hk i hi
  rw [List.getElem?_eq_getElem hi,e3] at e4; injection e4 with e4; injection e4 with e4; subst e4
  rw [e2] at e5
  injection e5 with e5; injection e5 with e5; injection e5 with e5 _
  obtain ⟨tk,rfl⟩:=er_int e5
  exact .now
 ·intro i j C hi hj hC
  obtain ⟨t,w,e1,e2⟩:=hk i hi
  obtain ⟨t',w',e1',e2'⟩:=hk j hj
  unfold kas_ask
  rw [item_at hm e1,item_at hm e1']
  obtain ⟨u,v,nn,dd,sl,ho,h1,h2⟩:=tup2_at T e2
  obtain ⟨u',v',nn',dd',sl',ho',h1',h2'⟩:=tup2_at T e2'
  obtain ⟨tk,rfl⟩:=er_int h1
  obtain ⟨tk',rfl⟩:=er_int h1'
  refine kat_lt ho rfl ho' rfl ?_
  refine kat_cons (eqb_int ?_)
  by_cases hij:key i=key j
  ·have:=hinj i j hi hj hij
   subst this
   have et:t=t':=by rw [e1] at e1'; injection e1' with e1'; injection e1' with e1'
   subst et
   rw [ho] at ho'
   injection ho' with ho'
   injection ho' with _ _ ho' _
   injection ho' with ho' _
   have ev:v=v':=by
    have:=congrArg (·[1]?) ho'
    simpa using this
   subst ev
   rw [show (key i == key i)=true by simp]
   refine kat_yes (kat_cons (EqAt.same _ _ _ _ _ (kat_yes (kat_nil ?_))))
   have hC':C (decide (key i < key i)) s:=hC
   rw [show decide (key i < key i)=false by simp] at hC'
   exact hC'
  ·rw [show (key i == key j)=false by simpa using hij]
   exact kat_no (oneLt_int hC)
theorem pair_lt_wp {A:Around} {s:Shared} {E:Value→Shared→Prop} {Q:Value→Shared→Prop} (T:Tied σ Φ.toCtx s.heap) (hu:A.units+5 < cLine) {a b:Addr} {x y z w:Int} (h1:σ a=some (.tuple [.int x,.int y])) (h2:σ b=some (.tuple [.int z,.int w]))
  (q:Q (.bool (if x=z then decide (y < w) else decide (x < z))) s):wpAny (model Φ.prog Φ.w) A (compareOp .Lt (.ref a) (.ref b)) Q E s:=by
 obtain ⟨t,u,nn,dd,sl,ho⟩:=pair_at T h1
 obtain ⟨t',u',nn',dd',sl',ho'⟩:=pair_at T h2
 exact richCompare_meets_room (op:=.Lt) ⟨_,ho,rfl⟩ ⟨_,ho',rfl⟩ F.slot_tuple_lt F.entry_tuple_lt (F.args_tuple_lt_2 _ _) (pair_ltAt a b x y z w t u t' u' nn nn' dd dd' sl sl') ⟨ho,ho',(fun e=>nomatch e),q⟩ (by (revert hu; lia))
noncomputable def ltP (p q:Int×Int):Bool:=if p.1=q.1 then decide (p.2 < q.2) else decide (p.1 < q.1)
theorem lexT {a b c:Int} {P Q R:Prop} (h:P→Q→R) (h1:a < b∨a=b∧P) (h2:b < c∨b=c∧Q):a < c∨a=c∧R :=
 h1.elim (fun g=>.inl (h2.elim (Int.lt_trans g) fun k=>k.1▸g)) fun g=>h2.elim (fun k=>.inl (g.1▸k)) fun k=>.inr ⟨g.1.trans k.1,h g.2 k.2⟩
theorem ltP_iff (p q:Int×Int):ltP p q=true↔p.1 < q.1∨(p.1=q.1∧p.2 < q.2):=by
 unfold ltP; split
 ·rename_i h; rw [decide_eq_true_eq]; exact ⟨fun g=>.inr ⟨h,g⟩,fun g=>g.elim (fun k=>absurd h (Int.ne_of_lt k)) (·.2)⟩
 ·rename_i h; rw [decide_eq_true_eq]; exact ⟨.inl,fun g=>g.elim id fun k=>absurd k.1 h⟩
theorem b_sorted_pair1 (ok:Φ.Ok n) {a:Addr} {vs:List V} {key:Nat→Int×Int} (e:σ a=some (.list vs)) (h64:vs.length < 64) (hk:∀ i,i < vs.length→∃ t f w,vs[i]?=some (V.ref t)∧σ t=some (.tuple [.ref f,w])∧σ f=some (.tuple [.int (key i).1,.int (key i).2]))
  (hinj:∀ i j,i < vs.length→j < vs.length→key i=key j→i=j)
  (q:∀ D p,σ D=none→PermOk vs.length p→Asc (fun i j=>ltP (key i) (key j)) p vs.length→Q (.ref D) (σ.set D (.list (p.toList.map fun i=>vs.getD i .none)))) :
  ∀ vals,vals.map er=[.ref a]→SV Φ (call (.builtin "sorted") vals) M σ Q R:=by
 refine b_sorted_core ok (κ:=tuples' false) e h64 ⟨fun i j k _ _ _ h1 h2=>?_,fun i j hi hj hn h=>?_,fun i j _ _ h=>?_⟩ (fun h2 s A items Qk T hm hq=>?_) (fun s A items T hu hm=>?_) q
 ·exact (ltP_iff _ _).mpr (lexT Int.lt_trans ((ltP_iff _ _).mp h1) ((ltP_iff _ _).mp h2))
 ·have:key i≠key j:=fun q=>hn (hinj i j hi hj q)
  have:¬ ((key i).1=(key j).1∧(key i).2=(key j).2):=fun q=>this (Prod.ext q.1 q.2)
  have h':=fun g=>Bool.false_ne_true (h.symm.trans ((ltP_iff (key i) (key j)).mpr g))
  exact (ltP_iff _ _).mpr (by (revert this h'; lia))
 ·exact Bool.eq_false_iff.mpr fun g=>by (have a:=(ltP_iff _ _).mp h; have b:=(ltP_iff _ _).mp g; revert a b; lia)
 ·obtain ⟨fs,k1,k2,k3⟩:=firsts_at T items vs hm fun v hv=>by
   obtain ⟨i,hi,rfl⟩:=List.mem_iff_getElem.mp hv
   obtain ⟨t,f,w,e1,e2,_⟩:=hk i hi
   rw [List.getElem?_eq_getElem hi] at e1; injection e1 with e1
   exact ⟨t,_,w,e1,e2⟩
  have hil:items.length=vs.length:=by rw [← hm,List.length_map]
  refine kat_kind (T:=.type "tuple") k1 (by (revert h64 h2 k2 hil; lia)) (fun f hf=>?_) rfl hq
  obtain ⟨v,hv,t,y,rfl,e2⟩:=k3 f hf
  obtain ⟨i,hi,e3⟩:=List.mem_iff_getElem.mp hv
  obtain ⟨t',f',w,e4,e5,e6⟩:=hk i hi
  rw [List.getElem?_eq_getElem hi,e3] at e4; injection e4 with e4; injection e4 with e4; subst e4
  rw [e2] at e5
  injection e5 with e5; injection e5 with e5; injection e5 with e5 _
  have:=er_ref e5; subst this
  obtain ⟨u,v,nn,dd,sl,ho,_⟩:=tup2_at T e6
  exact (Looks.ld ho).andThen .now
 ·intro i j C hi hj hC
  obtain ⟨t,f,w,e1,e2,e3⟩:=hk i hi
  obtain ⟨t',f',w',e1',e2',e3'⟩:=hk j hj
  unfold kas_ask
  rw [item_at hm e1,item_at hm e1']
  obtain ⟨u,v,nn,dd,sl,ho,h1,h2⟩:=tup2_at T e2
  obtain ⟨u',v',nn',dd',sl',ho',h1',h2'⟩:=tup2_at T e2'
  have:=er_ref h1; subst this
  have:=er_ref h1'; subst this
  refine kat_lt ho rfl ho' rfl ?_
  refine kat_cons ?_
  have hrep:∀ {g:Addr} {p:Int×Int},σ g=some (.tuple [.int p.1,.int p.2])→Rep σ (.tup [.int p.1,.int p.2]) (er (.ref g)):=fun {g p} hg=>by
   exact ⟨g,_,rfl,hg,_,_,rfl,rfl,_,_,rfl,rfl,rfl⟩
  refine (rcAt_rep T 1 (.tup [.int (key i).1,.int (key i).2]) (.tup [.int (key j).1,.int (key j).2]) A (.ref f) (.ref f') (by simp ) (hrep e3) (hrep e3') (by (revert hu; lia))).2.2 _ _ _ _ ?_
  by_cases hij:key i=key j
  ·have:=hinj i j hi hj hij
   subst this
   have et:t=t':=by rw [e1] at e1'; injection e1' with e1'; injection e1' with e1'
   subst et
   rw [ho] at ho'
   injection ho' with ho'
   injection ho' with _ _ ho' _
   injection ho' with ho' _
   have ev:v=v':=by
    have:=congrArg (·[1]?) ho'
    simpa using this
   subst ev
   simp only [decide_true]
   refine kat_yes (kat_cons (EqAt.same _ _ _ _ _ (kat_yes (kat_nil ?_))))
   have hC':C (ltP (key i) (key i)) s:=hC
   rw [show ltP (key i) (key i)=false by unfold ltP; simp] at hC'
   exact hC'
  ·have:¬ (D.tup [.int (key i).1,.int (key i).2]=D.tup [.int (key j).1,.int (key j).2]):=fun q=>hij (by
    injection q with q; injection q with q1 q; injection q with q2 _; injection q1 with q1; injection q2 with q2
    exact Prod.ext q1 q2)
   simp only [this,decide_false]
   refine kat_no (kat_one _ _ (pair_lt_wp T (by (revert hu; lia)) e3 e3' ?_))
   exact hC
end
theorem perm_ct {α:Type} {l₁ l₂:List α} (h:∀ p:α→Bool,l₁.countP p=l₂.countP p):l₁.Perm l₂:=by
 classical
 exact List.perm_iff_count.mpr fun a=>h _
noncomputable def dB (ds:List (Addr×List (Int×V))):List (Addr×O):=ds.map fun p=>(p.1,O.dict p.2)
noncomputable def lB (ps:List (Addr×List V)):List (Addr×O):=ps.map fun p=>(p.1,O.list p.2)
noncomputable def rB {α:Type} (ps:List (Addr×α)):List V:=ps.map fun p=>V.ref p.1
noncomputable def verH (v fl:Addr) (nl:Int) (io sc:Addr) (sl:Int) (ps:List (Addr×List V)):List (Addr×O):=(v,.inst 466 (verF nl io fl sc sl))::(fl,.list (rB ps))::lB ps
noncomputable def mkH (m b dl al:Addr) (dr:Bool) (ds as:List (Addr×List (Int×V))):List (Addr×O):=(m,.inst 522 (mkF b dr dl al))::(dl,.list (rB ds))::(al,.list (rB as))::(dB ds++dB as)
section
variable {σ W:Sto} {H X P:List (Addr×O)} {a:Addr} {o o':O}
theorem At.mid (A:At σ W (P++(a,o)::X)):At (σ.set a o') W (P++(a,o')::X):=((A.perm List.perm_middle).upd).perm List.perm_middle.symm
theorem split_at {α:Type} {l:List α} {k:Nat} {x:α} (h:l[k]?=some x):l=l.take k++x::l.drop (k+1)∧∀ y,l.set k y=l.take k++y::l.drop (k+1):=by
 have hk:k < l.length:=(List.getElem?_eq_some_iff.mp h).1
 have hx:l[k]=x:=(List.getElem?_eq_some_iff.mp h).2
 constructor
 ·rw [← hx]; simp
 ·intro y; rw [List.set_eq_take_append_cons_drop]; simp [hk]
theorem At.dset {ds:List (Addr×List (Int×V))} {k:Nat} {kvs kvs':List (Int×V)} (A:At σ W (P++(dB ds++X))) (h:ds[k]?=some (a,kvs)):At (σ.set a (.dict kvs')) W (P++(dB (ds.set k (a,kvs'))++X)):=by
 obtain ⟨e1,e2⟩:=split_at h
 rw [e2]
 rw [e1] at A
 simp only [dB,List.map_append,List.map_cons,List.append_assoc,List.cons_append] at A ⊢
 rw [← List.append_assoc] at A ⊢
 exact A.mid
theorem rB_set {ds:List (Addr×List (Int×V))} {k:Nat} {kvs kvs':List (Int×V)} (h:ds[k]?=some (a,kvs)):rB (ds.set k (a,kvs'))=rB ds:=by
 obtain ⟨e1,e2⟩:=split_at h
 rw [e2]
 conv=>rhs; rw [e1]
 simp [rB]
theorem At.dput {ds:List (Addr×List (Int×V))} {k:Nat} {d:Addr} {kvs':List (Int×V)} (A:At σ W ((d,.dict kvs')::(P++(dB ds++X)))) (h:k < ds.length):At σ W (P++(dB (ds.set k (d,kvs'))++X)):=by
 obtain ⟨e1,e2⟩:=split_at (List.getElem?_eq_getElem h)
 rw [e2]
 rw [e1] at A
 simp only [dB,List.map_append,List.map_cons,List.append_assoc,List.cons_append] at A ⊢
 rw [← List.append_assoc] at A ⊢
 have A1:=A.perm (List.Perm.cons _ List.perm_middle)
 have A2:=A1.perm (List.Perm.swap _ _ _)
 exact (A2.sub (List.sublist_cons_self _ _)).perm List.perm_middle.symm
theorem dB_mem {ds:List (Addr×List (Int×V))} {k:Nat} {kvs:List (Int×V)} (h:ds[k]?=some (a,kvs)):(a,O.dict kvs)∈dB ds:=List.mem_map.mpr ⟨_,List.mem_of_getElem? h,rfl⟩
theorem rB_at {α:Type} {ds:List (Addr×α)} {k:Nat} {x:α} (h:ds[k]?=some (a,x)):(rB ds)[k]?=some (V.ref a):=by simp [rB,h]
theorem rB_length {α:Type} {ds:List (Addr×α)}:(rB ds).length=ds.length:=by simp [rB]
end
structure Mk where
 dr:Bool
 ds:List (List (Int×V))
 as:List (List (Int×Mt))
noncomputable def Mk.reset (s:Mk):Mk:=⟨true,s.ds.map fun _=>[],s.as.map fun _=>[]⟩
noncomputable def Mk.del (s:Mk) (l:Nat) (n:Int):Mk:=⟨s.dr,s.ds.set l (gset (s.ds.getD l []) n (.bool true)),s.as.set l (gdel (s.as.getD l []) n)⟩
noncomputable def Mk.put (s:Mk) (l:Nat) (m:Mt):Mk:=⟨s.dr,s.ds.set l (gdel (s.ds.getD l []) m.n),s.as.set l (gset (s.as.getD l []) m.n m)⟩
noncomputable def Mk.apply (s:Mk) (rs:Bool) (dels:List (Int×Int)) (adds:List (Int×Mt)):Mk :=
 adds.foldl (fun s p=>s.put p.1.toNat p.2) (dels.foldl (fun s p=>s.del p.1.toNat p.2) (if rs then s.reset else s))
noncomputable def ARs (σ:Sto) (as:List (List (Int×V))) (ms:List (List (Int×Mt))):Prop:=as.length=ms.length∧∀ (k:Nat) (p:List (Int×V)) (m:List (Int×Mt)),as[k]?=some p→ms[k]?=some m→AR σ p m
structure MkIs (σ:Sto) (s:Mk) (ds as:List (Addr×List (Int×V))) (nl N:Nat):Prop where
 ds:ds.map (·.2)=s.ds
 as:ARs σ (as.map (·.2)) s.as
 nd:s.ds.length=nl
 na:s.as.length=nl
 zd:∀ d∈s.ds,d.length≤N
 za:∀ d∈s.as,d.length≤N
theorem ARs.mono {σ σ':Sto} (l:σ.le σ') {as:List (List (Int×V))} {ms:List (List (Int×Mt))} (h:ARs σ as ms):ARs σ' as ms:=⟨h.1,fun k p m a b=>(h.2 k p m a b).mono l⟩
theorem MkIs.mono {σ σ':Sto} (l:σ.le σ') {s:Mk} {ds as:List (Addr×List (Int×V))} {nl N:Nat} (h:MkIs σ s ds as nl N):MkIs σ' s ds as nl N:=⟨h.ds,h.as.mono l,h.nd,h.na,h.zd,h.za⟩
theorem gset_length {α:Type} (kvs:List (Int×α)) (k:Int) (v:α):(gset kvs k v).length≤kvs.length+1:=by
 unfold gset; split <;> simp
theorem gdel_length {α:Type} (kvs:List (Int×α)) (k:Int):(gdel kvs k).length≤kvs.length:=List.length_filter_le _ _
theorem gdel_none {α:Type} {kvs:List (Int×α)} {k:Int} (h:gget kvs k=none):gdel kvs k=kvs:=by
 unfold gget at h; unfold gdel
 rw [Option.map_eq_none_iff,List.find?_eq_none] at h
 refine List.filter_eq_self.mpr fun p hp=>?_
 have:=h p hp
 simpa using this
theorem AR.getn {σ:Sto} {k:Int} {kvs:List (Int×V)} {ms:List (Int×Mt)} (x:AR σ kvs ms):(gget kvs k).isSome=(gget ms k).isSome:=by
 induction x with
 | nil=>rfl
 | @cons k' f m kvs ms h r ih =>
  unfold gget at ih ⊢
  by_cases e:k'=k
  ·simp [List.find?_cons,e]
  ·simpa [List.find?_cons,e] using ih
theorem ARs.put {σ:Sto} {as:List (Addr×List (Int×V))} {ms:List (List (Int×Mt))} {k:Nat} {a:Addr} {p:List (Int×V)} {q:List (Int×Mt)} (h:ARs σ (as.map (·.2)) ms) (r:AR σ p q):ARs σ ((as.set k (a,p)).map (·.2)) (ms.set k q):=by
 refine ⟨by have:=h.1; simpa using this,fun k' p' m' e1 e2=>?_⟩
 rw [List.map_set] at e1
 by_cases hk:k'=k
 ·subst hk
  have hl:k' < ms.length:=by have:=(List.getElem?_eq_some_iff.mp e2).1; simpa using this
  have hl2:k' < as.length:=by have:=h.1; simp at this; (revert hl this; lia)
  rw [List.getElem?_set_self (by simpa using hl2)] at e1
  rw [List.getElem?_set_self hl] at e2
  cases e1; cases e2; exact r
 ·rw [List.getElem?_set_ne (by (revert hk; lia))] at e1 e2
  exact h.2 _ _ _ e1 e2
theorem ARs.at {σ:Sto} {as:List (Addr×List (Int×V))} {ms:List (List (Int×Mt))} {k:Nat} {a:Addr} {p:List (Int×V)} (h:ARs σ (as.map (·.2)) ms) (e:as[k]?=some (a,p)):AR σ p (ms.getD k []):=by
 have hl:k < as.length:=(List.getElem?_eq_some_iff.mp e).1
 have hl2:k < ms.length:=by have:=h.1; simp at this; (revert hl this; lia)
 refine h.2 k p _ (by simp [e]) ?_
 rw [List.getD_eq_getElem?_getD,List.getElem?_eq_getElem hl2]; rfl
theorem AR.length {σ:Sto} {kvs:List (Int×V)} {ms:List (Int×Mt)} (x:AR σ kvs ms):kvs.length=ms.length:=by
 induction x with
 | nil=>rfl
 | cons _ _ ih=>exact congrArg Nat.succ ih
theorem MkIs.at {σ:Sto} {s:Mk} {ds as:List (Addr×List (Int×V))} {nl N:Nat} (is:MkIs σ s ds as nl N) {k:Nat} (hk:k < nl) :
  ∃ d kvs a ars,ds[k]?=some (d,kvs)∧kvs=s.ds.getD k []∧as[k]?=some (a,ars)∧AR σ ars (s.as.getD k [])∧kvs.length≤N∧ars.length≤N:=by
 have h1:ds.length=nl:=by rw [← is.nd,← is.ds,List.length_map]
 have h2:as.length=nl:=by rw [← is.na,← is.as.1,List.length_map]
 obtain ⟨⟨d,kvs⟩,e1⟩:∃ p,ds[k]?=some p:=⟨_,List.getElem?_eq_getElem (by (revert hk h1 h2; lia))⟩
 obtain ⟨⟨a,ars⟩,e2⟩:∃ p,as[k]?=some p:=⟨_,List.getElem?_eq_getElem (by (revert hk h1 h2; lia))⟩
 have r:=is.as.at e2
 refine ⟨_,_,_,_,e1,?_,e2,r,?_,?_⟩
 ·rw [← is.ds,List.getD_eq_getElem?_getD,List.getElem?_map,e1]; rfl
 ·refine is.zd _ ?_
  rw [← is.ds]
  exact List.mem_map.mpr ⟨_,List.mem_of_getElem? e1,rfl⟩
 ·rw [r.length]
  refine is.za _ ?_
  rw [List.getD_eq_getElem?_getD,List.getElem?_eq_getElem (by have:=is.na; (revert hk h1 h2 this; lia))]
  exact List.getElem_mem _
theorem mem_set {α:Type} {l:List α} {k:Nat} {x y:α} (h:y∈l.set k x):y=x∨y∈l:=by
 rcases List.mem_or_eq_of_mem_set h with h | h
 ·exact .inr h
 ·exact .inl h
theorem MkIs.del {σ:Sto} {s:Mk} {ds as:List (Addr×List (Int×V))} {nl N:Nat} (is:MkIs σ s ds as nl N) {k:Nat} {d a:Addr} {kvs ars:List (Int×V)} (n:Int) (e1:ds[k]?=some (d,kvs)) (e2:as[k]?=some (a,ars)) :
  MkIs σ (s.del k n) (ds.set k (d,gset kvs n (.bool true))) (as.set k (a,gdel ars n)) nl (N+1):=by
 have hk:k < ds.length:=(List.getElem?_eq_some_iff.mp e1).1
 have hk':k < nl:=by rw [← is.nd,← is.ds,List.length_map]; exact hk
 obtain ⟨d',kvs',a',ars',g1,g2,g3,g4,g5,g6⟩:=is.at hk'
 rw [e1] at g1; cases g1
 rw [e2] at g3; cases g3
 refine ⟨?_,is.as.put g4.del,by simpa [Mk.del] using is.nd,by simpa [Mk.del] using is.na,fun x hx=>?_,fun x hx=>?_⟩
 ·rw [List.map_set,is.ds]; simp only [Mk.del]; rw [← g2]
 ·rcases mem_set hx with rfl | hx
  ·rw [← g2]; have:=gset_length kvs n (.bool true); (revert g5 this; lia)
  ·have:=is.zd _ hx; (revert this; lia)
 ·rcases mem_set hx with rfl | hx
  ·(refine' (?_:_→_→_→_) (gdel_length (s.as.getD k []) n) g4.length g6; lia)
  ·have:=is.za _ hx; (revert this; lia)
theorem MkIs.put {σ:Sto} {s:Mk} {ds as:List (Addr×List (Int×V))} {nl N:Nat} (is:MkIs σ s ds as nl N) {k:Nat} {d a f:Addr} {kvs ars:List (Int×V)} {m:Mt} (hf:σ f=some (.inst 340 (fmF m))) (e1:ds[k]?=some (d,kvs)) (e2:as[k]?=some (a,ars)) :
  MkIs σ (s.put k m) (ds.set k (d,gdel kvs m.n)) (as.set k (a,gset ars m.n (.ref f))) nl (N+1):=by
 have hk:k < ds.length:=(List.getElem?_eq_some_iff.mp e1).1
 have hk':k < nl:=by rw [← is.nd,← is.ds,List.length_map]; exact hk
 obtain ⟨d',kvs',a',ars',g1,g2,g3,g4,g5,g6⟩:=is.at hk'
 rw [e1] at g1; cases g1
 rw [e2] at g3; cases g3
 refine ⟨?_,is.as.put (g4.set hf),by simpa [Mk.put] using is.nd,by simpa [Mk.put] using is.na,fun x hx=>?_,fun x hx=>?_⟩
 ·rw [List.map_set,is.ds]; simp only [Mk.put]; rw [← g2]
 ·rcases mem_set hx with rfl | hx
  ·rw [← g2]; have:=gdel_length kvs m.n; (revert g5 this; lia)
  ·have:=is.zd _ hx; (revert this; lia)
 ·rcases mem_set hx with rfl | hx
  ·(refine' (?_:_→_→_→_) (gset_length (s.as.getD k []) m.n m) g4.length g6; lia)
  ·have:=is.za _ hx; (revert this; lia)
theorem MkIs.le {σ:Sto} {s:Mk} {ds as:List (Addr×List (Int×V))} {nl N N':Nat} (h:N≤N') (is:MkIs σ s ds as nl N):MkIs σ s ds as nl N':=⟨is.ds,is.as,is.nd,is.na,fun d hd=>Nat.le_trans (is.zd d hd) h,fun d hd=>Nat.le_trans (is.za d hd) h⟩
theorem SX.mono {Φ:Act} {st:Stmt} {M:Loc} {σ:Sto} {F F':KF} {R:KL} (h:SX Φ st M σ F R) (k:∀ f M' σ',F f M' σ'→F' f M' σ'):SX Φ st M σ F' R:=.mk <| .mk fun P s y =>
 wpAny_mono (h.1.1 P s y) (fun fl s' x=>by obtain ⟨m,M',σ',y',q⟩:=x; exact ⟨m,M',σ',y',by cases fl <;> first | exact k _ _ _ q | exact q⟩) fun _ _ e=>e
section
variable {c:Ctx} {n:Nat} {σ W:Sto} {Q:KV} {R:Sto→Prop} {H:List (Addr×O)}
theorem ok_apply (x:Cx c) {m b dl al e cp edl eal io fl sc:Addr} {s:Mk} {ds as:List (Addr×List (Int×V))} {nl N:Nat} {sl:Int} {rs:Bool} {dels:List (Int×Int)} {adds:List (Int×Mt)} {dvs avs:List V}
  (A:At σ W (mkH m b dl al s.dr ds as++H)) (is:MkIs W s ds as nl N) (hN:N+dels.length+adds.length≤1000) (hn:nl≤100)
  (hb:(b,O.inst 466 (verF nl io fl sc sl))∈H) (he:(e,O.inst 375 (editF cp edl eal rs))∈H) (hed:(edl,O.list dvs)∈H) (hea:(eal,O.list avs)∈H)
  (hd:Reps W (dels.map endD) dvs) (ha:Reps W (adds.map addD) avs) (bd:∀ p∈dels,p.1.natAbs < 1000) (ba:∀ p∈adds,p.1.natAbs < 1000)
  (q:(∀ p∈dels,0≤p.1∧p.1 < nl)→(∀ p∈adds,0≤p.1∧p.1 < nl)→∀ σ' ds' as',At σ' W (mkH m b dl al (s.apply rs dels adds).dr ds' as'++H)→MkIs W (s.apply rs dels adds) ds' as' nl (N+dels.length+adds.length)→Q .none σ')
  (er:¬ ((∀ p∈dels,0≤p.1∧p.1 < nl)∧(∀ p∈adds,0≤p.1∧p.1 < nl))→R σ):Call c (n+4) (.ref 498) [.ref m,.ref e] σ Q R:=by
 let LL:=fun (x2 x3 x4:Option V)=>([some (.ref m),some (.ref e),x2,x3,x4]:Loc)
 refine Call.go x (fn_VersionMaker_apply x) fun Φ r=>?_
 refine (let M0:Loc:=_; (?_:SS _ _ M0 _ _ _))
 have eH:∀ {a o},(a,o)∈H→∀ {dr ds' as'},(a,o)∈mkH m b dl al dr ds' as'++H:=fun {_ _} h {_ _ _}=>List.mem_append_right _ h
 have hm0:σ m=some (.inst 522 (mkF b s.dr dl al)):=A.get (List.mem_append_left _ (.head _))
 have hb0:=A.get (eH hb)
 -- first loop
 walk_at "s"
 refine X_for ?_
 refine E_at ?_
 walk_at "go"
 refine at_ r.cx (A.get (eH he)) rfl ?_
 refine ⟨edl,dvs,rfl,?_⟩
 suffices main:∀ (rest:List V) (done todo:List (Int×Int)) (o1 o2:Option V),dels=done++todo→Reps W (todo.map endD) rest→(∀ p∈done,0≤p.1∧p.1 < nl)→ForG Φ _ _ (fun σ=>σ edl=some (.list dvs)) _ _ rest (LL o1 o2 none) σ from
  main dvs [] dels none none rfl hd (by simp)
 intro rest
 induction rest with
 | cons v rest ih =>
  intro done todo o1 o2 h1 h2 h3
  obtain ⟨p,ra,rfl,hp,h2c⟩:=list_more h2
  obtain ⟨a,rfl,hpa⟩:=rep_end.mp hp
  have hpm:p∈dels:=by rw [h1]; simp
  refine ⟨A.get (eH hed),?_⟩
  refine (let M1:Loc:=_; let F1:KF:=_; SG_t (M':=M1) (K:=kSb _ _ F1 _) r.toRun (A.fz hpa) rfl ?_)
  walk_at "s"
  refine X_ex ?_
  refine SE_meth r.ok rfl rfl rfl ?_
  walk_at "go"
  refine me_ r.cx hm0 rfl ?_
  walk_at "go"
  refine ok_within r.cx hm0 hb0 (by (revert hn; lia)) (by have:=bd p hpm; (revert this; lia)) (fun hq=>?_) (fun hq=>?_)
  ·try dsimp only
   walk_at "go"
   exact ih (done++[p]) ra _ _ (by rw [h1]; simp) h2c (fun p' hp'=>by
    rcases List.mem_append.mp hp' with hp' | hp'
    ·exact h3 p' hp'
    ·rw [List.mem_singleton] at hp'; subst hp'; exact hq)
  ·exact er fun hh=>hq (hh.1 p hpm)
 | nil =>
 intro done todo o1 o2 h1 h2 h3
 obtain rfl:=list_end h2
 rw [List.append_nil] at h1
 subst h1
 refine ⟨A.get (eH hed),?_⟩
 clear h2
 -- second loop
 walk_at "s"
 refine X_for ?_
 refine E_at ?_
 walk_at "go"
 refine at_ r.cx (A.get (eH he)) rfl ?_
 refine ⟨eal,avs,rfl,?_⟩
 suffices main:∀ (rest:List V) (done todo:List (Int×Mt)) (o1 o3:Option V),adds=done++todo→Reps W (todo.map addD) rest→(∀ p∈done,0≤p.1∧p.1 < nl)→ForG Φ _ _ (fun σ=>σ eal=some (.list avs)) _ _ rest (LL o1 o2 o3) σ from
  main avs [] adds o1 none rfl ha (by simp)
 intro rest
 induction rest with
 | cons v rest ih =>
  intro done' todo o1 o3 h1 h2 h3'
  obtain ⟨p,ra,rfl,hp,h2c⟩:=list_more h2
  obtain ⟨a,g,rfl,hpa,hg⟩:=rep_add.mp hp
  have hpm:p∈adds:=by rw [h1]; simp
  refine ⟨A.get (eH hea),?_⟩
  refine (let M1:Loc:=_; let F1:KF:=_; SG_t (M':=M1) (K:=kSb _ _ F1 _) r.toRun (A.fz hpa) rfl ?_)
  walk_at "s"
  refine X_ex ?_
  refine SE_meth r.ok rfl rfl rfl ?_
  walk_at "go"
  refine me_ r.cx hm0 rfl ?_
  walk_at "go"
  refine ok_within r.cx hm0 hb0 (by (revert hn; lia)) (by have:=ba p hpm; (revert this; lia)) (fun hq=>?_) (fun hq=>?_)
  ·try dsimp only
   walk_at "go"
   exact ih (done'++[p]) ra _ _ (by rw [h1]; simp) h2c (fun p' hp'=>by
    rcases List.mem_append.mp hp' with hp' | hp'
    ·exact h3' p' hp'
    ·rw [List.mem_singleton] at hp'; subst hp'; exact hq)
  ·exact er fun hh=>hq (hh.2 p hpm)
 | nil =>
 intro done' todo o1 o3 h1 h2 h3'
 obtain rfl:=list_end h2
 rw [List.append_nil] at h1
 subst h1
 refine ⟨A.get (eH hea),?_⟩
 clear h2
 -- the reset
 let F1:KF:=fun f M' σ₀=>f=.next∧∃ ds₀ as₀ o1,M'=(LL o1 o2 o3)∧At σ₀ W (mkH m b dl al (if rs then s.reset else s).dr ds₀ as₀++H)∧MkIs W (if rs then s.reset else s) ds₀ as₀ nl N
 refine SS_cons (SX.mono (F:=F1) ?_ ?_)
 ·walk_at "s"
  walk_at "s"
  refine E_at ?_
  walk_at "go"
  refine at_ r.cx (A.get (eH he)) rfl ?_
  refine ⟨_,rfl,?_⟩
  cases rs with
  | false =>
   refine if_F ?_
   walk_at "s"
   exact ⟨rfl,ds,as,_,rfl,A,is⟩
  | true =>
   refine if_T ?_
   walk_at "s"
   refine X_sa ?_
   walk_at "go"
   refine sa_ (fs':=mkF b true dl al) r.cx hm0 rfl ?_
   have A1:At (σ.set m (.inst 522 (mkF b true dl al))) W (mkH m b dl al true ds as++H):=A.upd
   walk_at "s"
   refine X_forr ?_
   refine E_at ?_
   refine E_at ?_
   walk_at "go"
   refine at_ r.cx (A1.get (.head _)) rfl ?_
   refine at_ r.cx (A1.get (eH hb)) rfl ?_
   refine ⟨nl,rfl,by (revert hn; lia),by (revert hn; lia),?_⟩
   generalize σ.set m (.inst 522 (mkF b true dl al))=σ₁ at A1
   have hdl:ds.length=nl:=by rw [← is.nd,← is.ds,List.length_map]
   have hal:as.length=nl:=by rw [← is.na,← is.as.1,List.length_map]
   suffices main:∀ (k j:Nat) (ds₁ as₁:List (Addr×List (Int×V))) (o1:Option V) (σ₂:Sto),nl-j=k→ds₁.length=nl→as₁.length=nl→(∀ i p,i < j→ds₁[i]?=some p→p.2=[])→(∀ i p,i < j→as₁[i]?=some p→p.2=[])→At σ₂ W (mkH m b dl al true ds₁ as₁++H) →
     ForG Φ _ _ (fun _=>True) _ _ (rng j nl) (LL o1 o2 o3) σ₂ from
    main _ 0 ds as o1 σ₁ rfl hdl hal (fun _ _ h=>(Nat.not_lt_zero _ h).elim) (fun _ _ h=>(Nat.not_lt_zero _ h).elim) A1
   intro k
   induction k with
   | zero =>
    intro j ds₁ as₁ o1 σ₂ hk h1 h2 h3 h4 A2
    rw [rng_nil (by (revert hdl hal hk h1 h2; lia))]
    refine ⟨trivial,?_⟩
    walk_at "s"
    have f1:ds₁.map (·.2)=s.ds.map fun _=>([]:List (Int×V)):=by
     refine List.ext_getElem? fun i=>?_
     rw [List.getElem?_map,List.getElem?_map]
     by_cases hi:i < nl
     ·have h5:i < ds₁.length:=by (revert hi h1; lia)
      have hnd:=is.nd
      rw [List.getElem?_eq_getElem (l:=ds₁) h5,List.getElem?_eq_getElem (l:=s.ds) (by (revert hi hnd; lia))]
      simp only [Option.map_some]
      rw [h3 i _ (by (revert hi hk h1 h2; lia)) (List.getElem?_eq_getElem h5)]
     ·have hnd:=is.nd
      rw [List.getElem?_eq_none (by (revert hi h1; lia)),List.getElem?_eq_none (by (revert hi hnd; lia))]; rfl
    refine ⟨rfl,ds₁,as₁,_,rfl,A2,f1,⟨by simp [Mk.reset,h2,is.na],fun i p mm e1 e2=>?_⟩,by simpa [Mk.reset] using is.nd,by simpa [Mk.reset] using is.na,fun d hd=>?_,fun d hd=>?_⟩
    ·rw [List.getElem?_map] at e1
     obtain ⟨pp,g1,rfl⟩:=Option.map_eq_some_iff.mp e1
     have hi:i < nl:=by have:=(List.getElem?_eq_some_iff.mp g1).1; (revert hdl hal h1 h2 this; lia)
     rw [h4 i pp (by (revert hdl hal hk h1 h2 hi; lia)) g1]
     have:mm=[]:=by
      simp only [Mk.reset,if_true,List.getElem?_map] at e2
      obtain ⟨_,_,rfl⟩:=Option.map_eq_some_iff.mp e2; rfl
     rw [this]; exact .nil
    ·simp only [Mk.reset,if_true,List.mem_map] at hd
     obtain ⟨_,_,rfl⟩:=hd; simp
    ·simp only [Mk.reset,if_true,List.mem_map] at hd
     obtain ⟨_,_,rfl⟩:=hd; simp
   | succ k ih =>
    intro j ds₁ as₁ o1 σ₂ hk h1 h2 h3 h4 A2
    rw [rng_cons (by (revert hdl hal hk h1 h2; lia))]
    refine ⟨trivial,?_⟩
    refine (let M1:Loc:=_; let F1:KF:=_; SG_n (M':=M1) (K:=kSb _ _ F1 _) r.toRun rfl ?_)
    walk_at "s"
    refine SX_setitem rfl ?_
    refine SE_dict0 r.ok fun d hd'=>?_
    have A3:=A2.new (o:=.dict []) hd'
    refine E_at ?_
    walk_at "go"
    refine at_ r.cx (A3.get (.tail _ (.head _))) rfl ?_
    walk_at "go"
    refine ⟨dl,_,rfl,rfl,.inr ⟨_,A3.get (.tail _ (.tail _ (.head _))),by lia,by rw [rB_length]; (revert hdl hal hk h1 h2; lia),by rw [rB_length]; (revert hn hdl hal h1 h2; lia),?_⟩⟩
    rw [Int.toNat_natCast]
    have A4:At _ W ((d,.dict [])::mkH m b dl al true ds₁ as₁++H):=A3
    have A5:=At.mid (P:=[(d,.dict []),(m,.inst 522 (mkF b true dl al))]) (a:=dl) (o':=.list ((rB ds₁).set j (.ref d))) (X:=(al,.list (rB as₁))::(dB ds₁++dB as₁)++H) A4
    have A6:=At.dput (P:=[(m,.inst 522 (mkF b true dl al)),(dl,.list ((rB ds₁).set j (.ref d))),(al,.list (rB as₁))]) (ds:=ds₁) (k:=j) (X:=dB as₁++H) (d:=d) (kvs':=[]) (by simpa using A5) (by (revert hdl hal hk h1 h2; lia))
    have er1:(rB ds₁).set j (.ref d)=rB (ds₁.set j (d,[])):=by simp [rB,List.map_set]
    rw [er1] at A6
    have A7:At ((σ₂.set d (.dict [])).set dl (.list (rB (ds₁.set j (d,[]))))) W (mkH m b dl al true (ds₁.set j (d,[])) as₁++H):=by
     have:=A6; simp only [List.cons_append,List.nil_append] at this; unfold mkH; simp only [List.cons_append,List.append_assoc]; exact this
    clear A3 A4 A5 A6
    rw [er1]
    generalize (σ₂.set d (.dict [])).set dl (.list (rB (ds₁.set j (d,[]))))=σ₃ at A7
    walk_at "s"
    refine SX_setitem rfl ?_
    refine SE_dict0 r.ok fun d2 hd2=>?_
    have A3:=A7.new (o:=.dict []) hd2
    refine E_at ?_
    walk_at "go"
    refine at_ r.cx (A3.get (.tail _ (.head _))) rfl ?_
    walk_at "go"
    refine ⟨al,_,rfl,rfl,.inr ⟨_,A3.get (.tail _ (.tail _ (.tail _ (.head _)))),by lia,by rw [rB_length]; (revert hdl hal hk h1 h2; lia),by rw [rB_length]; (revert hn hdl hal h1 h2; lia),?_⟩⟩
    rw [Int.toNat_natCast]
    have A4:At _ W ((d2,.dict [])::mkH m b dl al true (ds₁.set j (d,[])) as₁++H):=A3
    have A5:=At.mid (P:=[(d2,.dict []),(m,.inst 522 (mkF b true dl al)),(dl,.list (rB (ds₁.set j (d,[]))))]) (a:=al) (o':=.list ((rB as₁).set j (.ref d2))) (X:=(dB (ds₁.set j (d,[]))++dB as₁)++H) A4
    have A6:=At.dput (P:=[(m,.inst 522 (mkF b true dl al)),(dl,.list (rB (ds₁.set j (d,[])))),(al,.list ((rB as₁).set j (.ref d2)))]++dB (ds₁.set j (d,[]))) (ds:=as₁) (k:=j) (X:=H) (d:=d2) (kvs':=[]) (by simpa using A5) (by (revert hdl hal hk h1 h2; lia))
    have er2:(rB as₁).set j (.ref d2)=rB (as₁.set j (d2,[])):=by simp [rB,List.map_set]
    rw [er2] at A6
    have A8:At ((σ₃.set d2 (.dict [])).set al (.list (rB (as₁.set j (d2,[]))))) W (mkH m b dl al true (ds₁.set j (d,[])) (as₁.set j (d2,[]))++H):=by
     have:=A6; simp only [List.cons_append,List.nil_append,List.append_assoc] at this; unfold mkH; simp only [List.cons_append,List.append_assoc]; exact this
    rw [er2]
    walk_at "go"
    have:=ih (j+1) (ds₁.set j (d,[])) (as₁.set j (d2,[])) (some (.int j)) _ (by (revert hdl hal hk h1 h2; lia)) (by simpa using h1) (by simpa using h2) (fun i p hi hp=>by
     by_cases hij:i=j
     ·subst hij; rw [List.getElem?_set_self (by (revert hdl hal h1 h2 hk; lia))] at hp; cases hp; rfl
     ·rw [List.getElem?_set_ne (by (revert hij; lia))] at hp; exact h3 i p (by (revert hi hij; lia)) hp) (fun i p hi hp=>by
     by_cases hij:i=j
     ·subst hij; rw [List.getElem?_set_self (by (revert hdl hal h1 h2 hk; lia))] at hp; cases hp; rfl
     ·rw [List.getElem?_set_ne (by (revert hij; lia))] at hp; exact h4 i p (by (revert hi hij; lia)) hp) A8
    simpa using this
 rintro f M' σ₀ ⟨rfl,ds₀,as₀,o1',rfl,A₀,is₀⟩
 generalize hs₀:(if rs then s.reset else s)=s₀ at A₀ is₀
 unfold Mk.apply at q
 rw [hs₀] at q
 -- self.deleted[level],self.added[level]
 have dat:∀ {M:Loc} {L1 L2 L3:Option V} {p1 p2 p3 p4:Pos} {Q':KV} {R':KL} {dr:Bool} {ds₁ as₁:List (Addr×List (Int×V))} {σ₁:Sto} {lv:Int} {d:Addr} {kvs:List (Int×V)},At σ₁ W (mkH m b dl al dr ds₁ as₁++H)→0≤lv→lv < nl→ds₁[lv.toNat]?=some (d,kvs)→Q' (.ref d) σ₁ →
   SE Φ (.Subscript (.Attribute (.Name (Str.ofString "self") p1) (Str.ofString "deleted") p2) (.Name (Str.ofString "level") p3) p4) (LL (some (.int lv)) L2 L3) σ₁ Q' R':=by
  intro M L1 L2 L3 p1 p2 p3 p4 Q' R' dr ds₁ as₁ σ₁ lv d kvs A1 h0 h1 hd hq
  refine E_sub ?_
  refine E_at ?_
  walk_at "go"
  refine at_ r.cx (A1.get (.head _)) rfl ?_
  walk_at "go"
  exact ⟨_,.list (A1.get (.tail _ (.head _))) h0 (by (revert hn h1; lia)) (rB_at hd),hq⟩
 have aat:∀ {M:Loc} {L1 L2 L3:Option V} {p1 p2 p3 p4:Pos} {Q':KV} {R':KL} {dr:Bool} {ds₁ as₁:List (Addr×List (Int×V))} {σ₁:Sto} {lv:Int} {d:Addr} {kvs:List (Int×V)},At σ₁ W (mkH m b dl al dr ds₁ as₁++H)→0≤lv→lv < nl→as₁[lv.toNat]?=some (d,kvs)→Q' (.ref d) σ₁ →
   SE Φ (.Subscript (.Attribute (.Name (Str.ofString "self") p1) (Str.ofString "added") p2) (.Name (Str.ofString "level") p3) p4) (LL (some (.int lv)) L2 L3) σ₁ Q' R':=by
  intro M L1 L2 L3 p1 p2 p3 p4 Q' R' dr ds₁ as₁ σ₁ lv d kvs A1 h0 h1 hd hq
  refine E_sub ?_
  refine E_at ?_
  walk_at "go"
  refine at_ r.cx (A1.get (.head _)) rfl ?_
  walk_at "go"
  exact ⟨_,.list (A1.get (.tail _ (.tail _ (.head _)))) h0 (by (revert hn h1; lia)) (rB_at hd),hq⟩
 have toD:∀ {σ₁:Sto} {dr:Bool} {ds₁ as₁:List (Addr×List (Int×V))} {k:Nat} {d:Addr} {kvs kvs':List (Int×V)},At σ₁ W (mkH m b dl al dr ds₁ as₁++H)→ds₁[k]?=some (d,kvs)→At (σ₁.set d (.dict kvs')) W (mkH m b dl al dr (ds₁.set k (d,kvs')) as₁++H):=by
  intro σ₁ dr ds₁ as₁ k d kvs kvs' A1 h
  have A2:=At.dset (P:=[(m,.inst 522 (mkF b dr dl al)),(dl,.list (rB ds₁)),(al,.list (rB as₁))]) (X:=dB as₁++H) (kvs':=kvs') (by unfold mkH at A1; simpa using A1) h
  unfold mkH
  rw [rB_set h]
  simpa using A2
 have toA:∀ {σ₁:Sto} {dr:Bool} {ds₁ as₁:List (Addr×List (Int×V))} {k:Nat} {d:Addr} {kvs kvs':List (Int×V)},At σ₁ W (mkH m b dl al dr ds₁ as₁++H)→as₁[k]?=some (d,kvs)→At (σ₁.set d (.dict kvs')) W (mkH m b dl al dr ds₁ (as₁.set k (d,kvs'))++H):=by
  intro σ₁ dr ds₁ as₁ k d kvs kvs' A1 h
  have A2:=At.dset (P:=[(m,.inst 522 (mkF b dr dl al)),(dl,.list (rB ds₁)),(al,.list (rB as₁))]++dB ds₁) (X:=H) (kvs':=kvs') (by unfold mkH at A1; simpa using A1) h
  unfold mkH
  rw [rB_set h]
  simpa using A2
 have ind:∀ {σ₁:Sto} {dr:Bool} {ds₁ as₁:List (Addr×List (Int×V))} {k:Nat} {d:Addr} {kvs:List (Int×V)},At σ₁ W (mkH m b dl al dr ds₁ as₁++H)→ds₁[k]?=some (d,kvs)→σ₁ d=some (.dict kvs):=fun A1 h=>A1.get (by
  unfold mkH; exact List.mem_append_left _ (.tail _ (.tail _ (.tail _ (List.mem_append_left _ (dB_mem h))))))
 have ina:∀ {σ₁:Sto} {dr:Bool} {ds₁ as₁:List (Addr×List (Int×V))} {k:Nat} {d:Addr} {kvs:List (Int×V)},At σ₁ W (mkH m b dl al dr ds₁ as₁++H)→as₁[k]?=some (d,kvs)→σ₁ d=some (.dict kvs):=fun A1 h=>A1.get (by
  unfold mkH; exact List.mem_append_left _ (.tail _ (.tail _ (.tail _ (List.mem_append_right _ (dB_mem h))))))
 have set_id:∀ {α:Type} {l:List α} {k:Nat} {y:α},l[k]?=some y→l.set k y=l:=fun {α l k y} h=>by
  obtain ⟨h1,h2⟩:=split_at h
  rw [h2,← h1]
 -- third loop
 walk_at "s"
 refine X_for ?_
 refine E_at ?_
 walk_at "go"
 refine at_ r.cx (A₀.get (eH he)) rfl ?_
 refine ⟨edl,dvs,rfl,?_⟩
 suffices main:∀ (rest:List V) (todo:List (Int×Int)) (o1 o2:Option V) (s₁:Mk) (ds₁ as₁:List (Addr×List (Int×V))) (σ₁:Sto) (N₁:Nat),Reps W (todo.map endD) rest→(∀ p∈todo,0≤p.1∧p.1 < nl)→N₁+todo.length=N+dels.length →
   todo.foldl (fun s p=>s.del p.1.toNat p.2) s₁=dels.foldl (fun s p=>s.del p.1.toNat p.2) s₀ →
   At σ₁ W (mkH m b dl al s₁.dr ds₁ as₁++H)→MkIs W s₁ ds₁ as₁ nl N₁→ForG Φ _ _ (fun σ=>σ edl=some (.list dvs)) _ _ rest (LL o1 o2 o3) σ₁ from
  main dvs dels o1' o2 s₀ ds₀ as₀ σ₀ N hd h3 rfl rfl A₀ is₀
 intro rest
 induction rest with
 | cons v rest ih =>
  intro todo o1 o2 s₁ ds₁ as₁ σ₁ N₁ h2 h3 hN1 hfold A1 is1
  obtain ⟨p,ra,rfl,hp,h2c⟩:=list_more h2
  obtain ⟨a,rfl,hpa⟩:=rep_end.mp hp
  have hpr:=h3 p (.head _)
  obtain ⟨d,kvs,aa,ars,g1,g2,g3,g4,g5,g6⟩:=is1.at (k:=p.1.toNat) (by (revert hpr; lia))
  refine ⟨A1.get (eH hed),?_⟩
  refine (let M1:Loc:=_; let F1:KF:=_; SG_t (M':=M1) (K:=kSb _ _ F1 _) r.toRun (A1.fz hpa) rfl ?_)
  simp only [List.length_cons] at hN1
  walk_at "s"
  refine SX_setitem rfl ?_
  walk_at "go"
  refine dat (M:=[]) (L1:=none) A1 hpr.1 hpr.2 g1 ?_
  walk_at "go"
  refine ⟨d,_,rfl,rfl,.inl ⟨kvs,ind A1 g1,by (revert hN hN1 g5; lia),?_⟩⟩
  rw [dset_g]
  have A2:=toD (kvs':=gset kvs p.2 (.bool true)) A1 g1
  walk_at "go"
  refine aat (M:=[]) (L1:=none) A2 hpr.1 hpr.2 g3 ?_
  refine cop_in_dict (ina A2 g3) ?_
  rw [dget_g]
  refine ⟨_,rfl,?_⟩
  have fin:∀ {as₂:List (Addr×List (Int×V))} {σ₂:Sto},as₂=as₁.set p.1.toNat (aa,gdel ars p.2)→At σ₂ W (mkH m b dl al s₁.dr (ds₁.set p.1.toNat (d,gset kvs p.2 (.bool true))) as₂++H)→ForG Φ _ _ (fun σ=>σ edl=some (.list dvs)) _ _ rest (LL (some (.int p.1)) (some (.int p.2)) o3) σ₂:=fun {as₂ σ₂} ea A3=>by
   subst ea
   exact ih ra _ _ (s₁.del p.1.toNat p.2) _ _ σ₂ (N₁+1) h2c (fun p' hp'=>h3 p' (.tail _ hp')) (by (revert hN1; lia)) hfold A3 (is1.del p.2 g1 g3)
  cases hg:gget ars p.2 with
  | none =>
   refine if_F ?_
   walk_at "s"
   walk_at "s"
   refine fin ?_ A2
   rw [gdel_none hg,set_id g3]
  | some z =>
   refine if_T ?_
   walk_at "s"
   refine SX_delitem ?_
   refine aat (M:=[]) (L1:=none) A2 hpr.1 hpr.2 g3 ?_
   walk_at "go"
   refine ⟨aa,_,ars,rfl,rfl,ina A2 g3,by rw [dget_g,hg]; rfl,by (revert hN hN1 g6; lia),?_⟩
   rw [ddel_g]
   have A3:=toA (kvs':=gdel ars p.2) A2 g3
   walk_at "go"
   exact fin rfl A3
 | nil =>
 intro todo o1 o2 s₁ ds₁ as₁ σ₁ N₁ h2 _ hN1 hfold A1 is1
 obtain rfl:=list_end h2
 refine ⟨A1.get (eH hed),?_⟩
 clear h2
 have hfold:s₁=dels.foldl (fun s p=>s.del p.1.toNat p.2) s₀:=hfold
 rw [← hfold] at q
 have hN1:N₁=N+dels.length:=hN1
 subst hN1
 -- fourth loop
 walk_at "s"
 refine X_for ?_
 refine E_at ?_
 walk_at "go"
 refine at_ r.cx (A1.get (eH he)) rfl ?_
 refine ⟨eal,avs,rfl,?_⟩
 suffices main:∀ (rest:List V) (todo:List (Int×Mt)) (o1 o3:Option V) (s₂:Mk) (ds₁ as₁:List (Addr×List (Int×V))) (σ₁:Sto) (N₁:Nat),Reps W (todo.map addD) rest→(∀ p∈todo,0≤p.1∧p.1 < nl)→N₁+todo.length=N+dels.length+adds.length →
   todo.foldl (fun s p=>s.put p.1.toNat p.2) s₂=adds.foldl (fun s p=>s.put p.1.toNat p.2) s₁ →
   At σ₁ W (mkH m b dl al s₂.dr ds₁ as₁++H)→MkIs W s₂ ds₁ as₁ nl N₁→ForG Φ _ _ (fun σ=>σ eal=some (.list avs)) _ _ rest (LL o1 o2 o3) σ₁ from
  main avs adds o1 o3 s₁ ds₁ as₁ σ₁ _ ha h3' rfl rfl A1 is1
 clear A1 is1 hfold
 intro rest
 induction rest with
 | cons v rest ih =>
  intro todo o1 o3 s₂ ds₁ as₁ σ₁ N₁ h2 h3 hN1 hfold A1 is1
  obtain ⟨p,ra,rfl,hp,h2c⟩:=list_more h2
  obtain ⟨a,g,rfl,hpa,hg⟩:=rep_add.mp hp
  have hpr:=h3 p (.head _)
  obtain ⟨d,kvs,aa,ars,g1,g2,g3,g4,g5,g6⟩:=is1.at (k:=p.1.toNat) (by (revert hpr; lia))
  refine ⟨A1.get (eH hea),?_⟩
  refine (let M1:Loc:=_; let F1:KF:=_; SG_t (M':=M1) (K:=kSb _ _ F1 _) r.toRun (A1.fz hpa) rfl ?_)
  simp only [List.length_cons] at hN1
  have num:∀ {M:Loc} {L1 L2:Option V} {p1 p2:Pos} {Q':KV} {R':KL} {σ₂:Sto},W.le σ₂→Q' (.int p.2.n) σ₂ →
    SE Φ (.Attribute (.Name (Str.ofString "meta") p1) (Str.ofString "number") p2) (LL L1 L2 (some (.ref g))) σ₂ Q' R':=by
   intro M L1 L2 p1 p2 Q' R' σ₂ hl hq
   refine E_at ?_
   walk_at "go"
   exact at_ r.cx (hl _ _ hg) rfl hq
  walk_at "s"
  refine SX_setitem rfl ?_
  walk_at "go"
  refine aat (M:=[]) (L1:=none) A1 hpr.1 hpr.2 g3 ?_
  refine num (M:=[]) A1.le ?_
  refine ⟨aa,_,rfl,rfl,.inl ⟨ars,ina A1 g3,by (revert hN hN1 g6; lia),?_⟩⟩
  rw [dset_g]
  have A2:=toA (kvs':=gset ars p.2.n (.ref g)) A1 g3
  walk_at "s"
  walk_at "s"
  walk_at "s"
  refine num (M:=[]) A2.le ?_
  refine dat (M:=[]) (L1:=none) A2 hpr.1 hpr.2 g1 ?_
  refine cop_in_dict (ind A2 g1) ?_
  rw [dget_g]
  refine ⟨_,rfl,?_⟩
  have fin:∀ {ds₂:List (Addr×List (Int×V))} {σ₂:Sto},ds₂=ds₁.set p.1.toNat (d,gdel kvs p.2.n)→At σ₂ W (mkH m b dl al s₂.dr ds₂ (as₁.set p.1.toNat (aa,gset ars p.2.n (.ref g)))++H)→ForG Φ _ _ (fun σ=>σ eal=some (.list avs)) _ _ rest (LL (some (.int p.1)) o2 (some (.ref g))) σ₂:=fun {ds₂ σ₂} ea A3=>by
   subst ea
   exact ih ra _ _ (s₂.put p.1.toNat p.2) _ _ σ₂ (N₁+1) h2c (fun p' hp'=>h3 p' (.tail _ hp')) (by (revert hN1; lia)) hfold A3 (is1.put hg g1 g3)
  cases hgg:gget kvs p.2.n with
  | none =>
   refine if_F ?_
   walk_at "s"
   walk_at "s"
   refine fin ?_ A2
   rw [gdel_none hgg,set_id g1]
  | some z =>
   refine if_T ?_
   walk_at "s"
   refine SX_delitem ?_
   refine dat (M:=[]) (L1:=none) A2 hpr.1 hpr.2 g1 ?_
   refine num (M:=[]) A2.le ?_
   refine ⟨d,_,kvs,rfl,rfl,ind A2 g1,by rw [dget_g,hgg]; rfl,by (revert hN hN1 g5; lia),?_⟩
   rw [ddel_g]
   have A3:=toD (kvs':=gdel kvs p.2.n) A2 g1
   walk_at "go"
   exact fin rfl A3
 | nil =>
 intro todo o1 o3 s₂ ds₁ as₁ σ₁ N₁ h2 _ hN1 hfold A1 is1
 obtain rfl:=list_end h2
 refine ⟨A1.get (eH hea),?_⟩
 walk_at "go"
 have hfold:s₂=adds.foldl (fun s p=>s.put p.1.toNat p.2) s₁:=hfold
 have hN1:N₁=N+dels.length+adds.length:=hN1
 subst hN1
 rw [← hfold] at q
 exact q h3 h3' σ₁ ds₁ as₁ A1 is1
end
noncomputable def VLs (W:Sto) (ps:List (Addr×List V)) (fss:List (List Mt)):Prop:=ps.length=fss.length∧∀ (k:Nat) (p:Addr×List V) (fs:List Mt),ps[k]?=some p→fss[k]?=some fs→Reps W (fs.map fmD) p.2
theorem VLs.mono {W W':Sto} {ps:List (Addr×List V)} {fss:List (List Mt)} (l:W.le W') (h:VLs W ps fss):VLs W' ps fss:=⟨h.1,fun k p fs a b=>(h.2 k p fs a b).mono l⟩
theorem VLs.put {W:Sto} {ps:List (Addr×List V)} {fss:List (List Mt)} {k:Nat} {a:Addr} {vs:List V} {fs:List Mt} (h:VLs W ps fss) (r:Reps W (fs.map fmD) vs):VLs W (ps.set k (a,vs)) (fss.set k fs):=by
 refine ⟨by simpa using h.1,fun k' p' fs' e1 e2=>?_⟩
 by_cases hk:k'=k
 ·subst hk
  have hl:k' < fss.length:=by have:=(List.getElem?_eq_some_iff.mp e2).1; simpa using this
  have hl2:k' < ps.length:=by have:=h.1; (revert hl this; lia)
  rw [List.getElem?_set_self hl2] at e1
  rw [List.getElem?_set_self hl] at e2
  cases e1; cases e2; exact r
 ·rw [List.getElem?_set_ne (by (revert hk; lia))] at e1 e2
  exact h.2 _ _ _ e1 e2
theorem VLs.at {W:Sto} {ps:List (Addr×List V)} {fss:List (List Mt)} {k:Nat} {p:Addr×List V} (h:VLs W ps fss) (e:ps[k]?=some p):Reps W ((fss.getD k []).map fmD) p.2:=by
 have hl:k < ps.length:=(List.getElem?_eq_some_iff.mp e).1
 refine h.2 k p _ e ?_
 rw [List.getD_eq_getElem?_getD,List.getElem?_eq_getElem (by have:=h.1; (revert hl this; lia))]; rfl
theorem VLs.levs {σ W:Sto} (l:W.le σ) {ps:List (Addr×List V)} {fss:List (List Mt)} (h:VLs W ps fss) (hp:∀ p∈ps,σ p.1=some (.list p.2)) (hz:∀ fs∈fss,fs.length≤1000):Levs σ (ps.map (·.1)) fss:=by
 induction ps generalizing fss with
 | nil =>
  cases fss with
  | nil=>exact .nil
  | cons=>exact absurd h.1 (by simp)
 | cons p ps ih =>
  cases fss with
  | nil=>exact absurd h.1 (by simp)
  | cons fs fss =>
   have r:=h.2 0 p fs rfl rfl
   exact .cons (hp p (.head _)) (r.mono l) (by rw [r.length,List.length_map]; exact hz fs (.head _)) (ih ⟨Nat.succ.inj h.1,fun k p' fs' a b=>h.2 (k+1) p' fs' a b⟩ (fun q hq=>hp q (.tail _ hq)) fun q hq=>hz q (.tail _ hq))
theorem rB_lB (ps:List (Addr×List V)):rB ps=(ps.map (·.1)).map V.ref:=by simp [rB]
theorem At.lset {σ W:Sto} {P X:List (Addr×O)} {ps:List (Addr×List V)} {k:Nat} {a:Addr} {vs vs':List V} (A:At σ W (P++(lB ps++X))) (h:ps[k]?=some (a,vs)):At (σ.set a (.list vs')) W (P++(lB (ps.set k (a,vs'))++X)):=by
 obtain ⟨e1,e2⟩:=split_at h
 rw [e2]
 rw [e1] at A
 simp only [lB,List.map_append,List.map_cons,List.append_assoc,List.cons_append] at A ⊢
 rw [← List.append_assoc] at A ⊢
 exact A.mid
theorem rB_lset {ps:List (Addr×List V)} {k:Nat} {a:Addr} {vs vs':List V} (h:ps[k]?=some (a,vs)):rB (ps.set k (a,vs'))=rB ps:=by
 obtain ⟨e1,e2⟩:=split_at h
 rw [e2]
 conv=>rhs; rw [e1]
 simp [rB]
theorem lB_mem {ps:List (Addr×List V)} {k:Nat} {a:Addr} {vs:List V} (h:ps[k]?=some (a,vs)):(a,O.list vs)∈lB ps:=List.mem_map.mpr ⟨_,List.mem_of_getElem? h,rfl⟩
noncomputable def keep1 (d:List (Int×V)) (a:List (Int×Mt)) (m:Mt):Bool:=(gget d m.n).isNone && (gget a m.n).isNone
noncomputable def baseK (s:Mk) (bfss:List (List Mt)) (k:Nat):List Mt:=if s.dr then [] else (bfss.getD k []).filter (keep1 (s.ds.getD k []) (s.as.getD k []))
class inductive Placed (lv:Int) (as:List (Int×Mt)):List Mt→List Int→List Mt→Prop
 | nil {fs}:Placed lv as fs [] fs
 | cons {fs n ns gs k m}:gget as n=some m→PlaceOk lv fs m k→Placed lv as (fs.take k++m::fs.drop k) ns gs→Placed lv as fs (n::ns) gs
noncomputable def FinOf (s:Mk) (bfss:List (List Mt)) (k:Nat) (gs:List Mt):Prop:=∃ ns:List Int,ns.Perm ((s.as.getD k []).map (·.1))∧ns.Pairwise (·≤·)∧Placed k (s.as.getD k []) (baseK s bfss k) ns gs
theorem Placed.snoc {lv:Int} {as:List (Int×Mt)} {ns:List Int} {fs gs:List Mt} {n:Int} {k:Nat} {m:Mt} (h:Placed lv as fs ns gs) (h1:gget as n=some m) (h2:PlaceOk lv gs m k):Placed lv as fs (ns++[n]) (gs.take k++m::gs.drop k):=by
 induction h with
 | nil=>exact .cons h1 h2 .nil
 | cons g1 g2 _ ih=>exact .cons g1 g2 (ih h2)
theorem gget_mem {α:Type} {kvs:List (Int×α)} {n:Int} (h:n∈kvs.map (·.1)):∃ v,gget kvs n=some v:=by
 obtain ⟨p,hp,rfl⟩:=List.mem_map.mp h
 unfold gget
 cases e:kvs.find? fun q=>decide (q.1=p.1) with
 | none=>have:=List.find?_eq_none.mp e p hp; simp at this
 | some v=>exact ⟨v.2,rfl⟩
theorem Reps.insert {σ:Sto} {xs:List D} {vs:List V} {x:D} {v:V} (h:Reps σ xs vs) (hx:Rep σ x v) (k:Nat):Reps σ (xs.take k++x::xs.drop k) (vs.take k++v::vs.drop k):=by
 refine (h.take k).append ?_
 exact ⟨v,_,rfl,hx,h.drop k⟩
section
variable {c:Ctx} {n:Nat} {σ W:Sto} {Q:KV} {R:Sto→Prop} {H:List (Addr×O)}
theorem ok_finish (x:Cx c) {m b dl al io fl sc:Addr} {s:Mk} {ds as:List (Addr×List (Int×V))} {nl N:Nat} {sl:Int} {bps:List (Addr×List V)} {bfss:List (List Mt)}
  (A:At σ W (mkH m b dl al s.dr ds as++H)) (is:MkIs W s ds as nl N) (hn:nl≤10) (zb:∀ fs∈bfss,fs.length≤100) (za:∀ a∈s.as,a.length < 64)
  (hb:(b,O.inst 466 (verF nl io fl sc sl))∈H) (hfl:(fl,O.list (rB bps))∈H) (hbl:∀ p∈bps,(p.1,O.list p.2)∈H) (hB:VLs W bps bfss) (hnb:bfss.length=nl) (ho:OrdAt W io)
  (ob:∀ fs∈bfss,∀ y∈fs,MtOk y) (oa:∀ k n y,gget (s.as.getD k []) n=some y→MtOk y) (hz:∀ fss:List (List Mt),fss.length=nl→(∀ k,k < nl→FinOf s bfss k (fss.getD k []))→fss.flatten.length < 64)
  (q:∀ fss:List (List Mt),fss.length=nl→(∀ k,k < nl→FinOf s bfss k (fss.getD k []))→chkOk fss→(∀ fs∈fss,∀ y∈fs,MtOk y)→∀ σ' W' v fl' sc' ps,W.le W'→W' sc'=some (.tuple [.int 0,.int 1])→VLs W' ps fss →
   At σ' W' (verH v fl' nl io sc' (-1) ps++(mkH m b dl al s.dr ds as++H))→Q (.ref v) σ')
  (er:∀ fss:List (List Mt),fss.length=nl→(∀ k,k < nl→FinOf s bfss k (fss.getD k []))→¬ chkOk fss→∀ σ' W',W.le W'→At σ' W' (mkH m b dl al s.dr ds as++H)→R σ'):Call c (n+8) (.ref 519) [.ref m] σ Q R:=by
 refine Call.go x (fn_VersionMaker_finish x) fun Φ r=>?_
 refine (let M0:Loc:=_; (?_:SS _ _ M0 _ _ _))
 have eH:∀ {a o},(a,o)∈H→(a,o)∈mkH m b dl al s.dr ds as++H:=fun {_ _} h=>List.mem_append_right _ h
 have hm0:σ m=some (.inst 522 (mkF b s.dr dl al)):=A.get (List.mem_append_left _ (.head _))
 have hb0:=A.get (eH hb)
 walk_at "go"
 refine E_at ?_
 refine E_at ?_
 walk_at "go"
 refine at_ r.cx hm0 rfl ?_
 refine at_ r.cx hb0 rfl ?_
 walk_at "go"
 refine E_at ?_
 refine E_at ?_
 walk_at "go"
 refine at_ r.cx hm0 rfl ?_
 refine at_ r.cx hb0 rfl ?_
 walk_at "go"
 refine ok_Version r.cx A (nl:=nl) (by (revert hn hnb; lia)) fun σ₁ W₁ v fl' las sc' hlas L1 A1 hsc=>?_
 refine (let M1:Loc:=_; st_ (M':=M1) rfl ?_)
 have is1:=is.mono L1
 have hB1:=hB.mono L1
 have A1':At σ₁ W₁ (verH v fl' nl io sc' (-1) (las.map fun a=>(a,[]))++(mkH m b dl al s.dr ds as++H)):=by
  unfold verH lB rB
  rw [List.map_map,List.map_map]
  simp only [List.cons_append,List.append_assoc]
  exact A1
 walk_at "s"
 refine X_forr ?_
 refine E_at ?_
 refine E_at ?_
 walk_at "go"
 refine at_ r.cx (A1'.get (List.mem_append_right _ (List.mem_append_left _ (.head _)))) rfl ?_
 refine at_ r.cx (A1'.get (List.mem_append_right _ (eH hb))) rfl ?_
 refine ⟨nl,rfl,by (revert hn hnb hlas; lia),by (revert hn hnb hlas; lia),?_⟩
 suffices main:∀ (k j:Nat) (ps:List (Addr×List V)) (fss:List (List Mt)) (o1 o2 o3 o4:Option V) (σ₂:Sto),nl-j=k→ps.length=nl→(∀ i,i < j→i < nl→FinOf s bfss i (fss.getD i []))→(∀ i,j≤i→i < nl→fss.getD i []=[])→(∀ fs∈fss,∀ y∈fs,MtOk y)→(∀ fs∈fss,fs.length≤1000)→VLs W₁ ps fss →
   At σ₂ W₁ (verH v fl' nl io sc' (-1) ps++(mkH m b dl al s.dr ds as++H))→ForG Φ _ _ (fun _=>True) _ _ (rng j nl) [some (.ref m),some (.ref v),o1,o2,o3,o4] σ₂ from
  main _ 0 _ (List.replicate nl []) none none none none σ₁ rfl (by simpa using hlas) (fun _ h=>(Nat.not_lt_zero _ h).elim) (fun i _ h=>by simp [List.getD_eq_getElem?_getD,List.getElem?_replicate,h]) (by simp) (by simp) ⟨by simpa using hlas,fun k p fs e1 e2=>by
   rw [List.getElem?_map] at e1
   obtain ⟨_,_,rfl⟩:=Option.map_eq_some_iff.mp e1
   rw [List.getElem?_replicate] at e2
   split at e2
   ·cases e2; rfl
   ·cases e2⟩ A1'
 clear A1 A1'
 intro k
 induction k with
 | zero =>
  intro j ps fss o1 o2 o3 o4 σ₂ hk hps hF hE hok hlen hV A2
  rw [rng_nil (by (revert hnb hlas hk hps; lia))]
  refine ⟨trivial,?_⟩
  have hfl2:fss.length=nl:=by rw [← hV.1,hps]
  have hF':∀ i,i < nl→FinOf s bfss i (fss.getD i []):=fun i hi=>hF i (by (revert hnb hlas hk hps hfl2 hi; lia)) hi
  walk_at "s"
  refine X_ex ?_
  refine SE_meth0 r.ok rfl ?_
  walk_at "go"
  refine me0_ r.cx (A2.get (.head _)) rfl ?_
  refine ok_check r.cx A2 (las:=ps.map (·.1)) (fss:=fss) (A2.get (.head _)) (by rw [← rB_lB]; exact A2.get (.tail _ (.head _))) (hV.levs A2.le (fun p hp=>A2.get (List.mem_append_left _ (.tail _ (.tail _ (List.mem_map.mpr ⟨p,hp,rfl⟩))))) hlen) ((ho.mono L1).mono A2.le) (hz fss hfl2 hF') hfl2 (by (revert hn hnb hlas hps hfl2; lia)) hok (fun hc σ₃ A3=>?_) (fun hc σ₃ A3=>?_)
  ·try dsimp only
   walk_at "go"
   exact q fss hfl2 hF' hc hok σ₃ W₁ v fl' sc' ps L1 hsc hV A3
  ·exact er fss hfl2 hF' hc σ₃ W₁ L1 (A3.sub (List.sublist_append_right _ _))
 | succ k ih =>
  intro j ps fss o1 o2 o3 o4 σ₂ hk hps hF hE hok hlen hV A2
  rw [rng_cons (by (revert hnb hlas hk hps; lia))]
  refine ⟨trivial,?_⟩
  refine (let M1:Loc:=_; let F1:KF:=_; SG_n (M':=M1) (K:=kSb _ _ F1 _) r.toRun rfl ?_)
  have hfl2:fss.length=nl:=by rw [← hV.1,hps]
  obtain ⟨⟨a,vs0⟩,ea⟩:∃ p,ps[j]?=some p:=⟨_,List.getElem?_eq_getElem (by (revert hnb hlas hk hps hfl2; lia))⟩
  have hvs0:vs0=[]:=by
   have:=hV.at ea
   rw [hE j (Nat.le_refl _) (by (revert hnb hlas hk hps hfl2; lia))] at this
   exact this
  subst hvs0
  obtain ⟨d,kvs,aa,ars,g1,g2,g3,g4,g5,g6⟩:=is1.at (k:=j) (by (revert hnb hlas hk hps hfl2; lia))
  walk_at "s"
  walk_at "s"
  refine E_sub ?_
  refine E_at ?_
  walk_at "go"
  refine at_ r.cx (A2.get (.tail _ (.head _)) |> fun _=>A2.get (.head _)) rfl ?_
  walk_at "go"
  refine ⟨.ref a,.list (A2.get (.tail _ (.head _))) (by lia) (by (revert hn hnb hlas hk hps hfl2; lia)) (by simpa using rB_at ea),?_⟩
  refine (let M1:Loc:=_; st_ (M':=M1) rfl ?_)
  have A2:At σ₂ W₁ (verH v fl' nl io sc' (-1) (ps.set j (a,[]))++(mkH m b dl al s.dr ds as++H)):=by
   rw [(split_at ea).2,← (split_at ea).1]; exact A2
  have V0:VLs W₁ (ps.set j (a,[])) (fss.set j []):=hV.put rfl
  -- the parts of the store
  have eM:∀ {ps':List (Addr×List V)} {q:Addr×O},q∈mkH m b dl al s.dr ds as→q∈verH v fl' nl io sc' (-1) ps'++(mkH m b dl al s.dr ds as++H):=fun {_ _} h=>List.mem_append_right _ (List.mem_append_left _ h)
  have eB:∀ {ps':List (Addr×List V)} {q:Addr×O},q∈H→q∈verH v fl' nl io sc' (-1) ps'++(mkH m b dl al s.dr ds as++H):=fun {_ _} h=>List.mem_append_right _ (List.mem_append_right _ h)
  have mM:∀ {ps':List (Addr×List V)},(m,O.inst 522 (mkF b s.dr dl al))∈verH v fl' nl io sc' (-1) ps'++(mkH m b dl al s.dr ds as++H):=fun {_}=>eM (.head _)
  have mD:∀ {ps':List (Addr×List V)},(d,O.dict kvs)∈verH v fl' nl io sc' (-1) ps'++(mkH m b dl al s.dr ds as++H):=fun {_}=>eM (by unfold mkH; exact .tail _ (.tail _ (.tail _ (List.mem_append_left _ (dB_mem g1)))))
  have mA:∀ {ps':List (Addr×List V)},(aa,O.dict ars)∈verH v fl' nl io sc' (-1) ps'++(mkH m b dl al s.dr ds as++H):=fun {_}=>eM (by unfold mkH; exact .tail _ (.tail _ (.tail _ (List.mem_append_right _ (dB_mem g3)))))
  have mDL:∀ {ps':List (Addr×List V)},(dl,O.list (rB ds))∈verH v fl' nl io sc' (-1) ps'++(mkH m b dl al s.dr ds as++H):=fun {_}=>eM (.tail _ (.head _))
  have mAL:∀ {ps':List (Addr×List V)},(al,O.list (rB as))∈verH v fl' nl io sc' (-1) ps'++(mkH m b dl al s.dr ds as++H):=fun {_}=>eM (.tail _ (.tail _ (.head _)))
  have mL:∀ {vs':List V},(a,O.list vs')∈verH v fl' nl io sc' (-1) (ps.set j (a,vs'))++(mkH m b dl al s.dr ds as++H):=fun {vs'}=>List.mem_append_left _ (.tail _ (.tail _ (lB_mem (k:=j) (List.getElem?_set_self (by (revert hnb hlas hk hps hfl2; lia))))))
  have dat:∀ {M:Loc} {L1 L2 L3:Option V} {p1 p2 p3 p4:Pos} {Q':KV} {R':KL} {ps':List (Addr×List V)} {X:List (Addr×O)} {σ₁:Sto},At σ₁ W₁ (X++(verH v fl' nl io sc' (-1) ps'++(mkH m b dl al s.dr ds as++H)))→Q' (.ref d) σ₁ →
    SE Φ (.Subscript (.Attribute (.Name (Str.ofString "self") p1) (Str.ofString "deleted") p2) (.Name (Str.ofString "level") p3) p4) [some (.ref m),some (.ref v),some (.int j),L1,L2,L3] σ₁ Q' R':=by
   intro M L1 L2 L3 p1 p2 p3 p4 Q' R' ps' X σ₁ A1 hq
   refine E_sub ?_
   refine E_at ?_
   walk_at "go"
   refine at_ r.cx (A1.get (List.mem_append_right _ mM)) rfl ?_
   walk_at "go"
   exact ⟨_,.list (A1.get (List.mem_append_right _ mDL)) (by lia) (by (revert hn hnb hlas hk hps hfl2; lia)) (by simpa using rB_at g1),hq⟩
  have aat:∀ {M:Loc} {L1 L2 L3:Option V} {p1 p2 p3 p4:Pos} {Q':KV} {R':KL} {ps':List (Addr×List V)} {X:List (Addr×O)} {σ₁:Sto},At σ₁ W₁ (X++(verH v fl' nl io sc' (-1) ps'++(mkH m b dl al s.dr ds as++H)))→Q' (.ref aa) σ₁ →
    SE Φ (.Subscript (.Attribute (.Name (Str.ofString "self") p1) (Str.ofString "added") p2) (.Name (Str.ofString "level") p3) p4) [some (.ref m),some (.ref v),some (.int j),L1,L2,L3] σ₁ Q' R':=by
   intro M L1 L2 L3 p1 p2 p3 p4 Q' R' ps' X σ₁ A1 hq
   refine E_sub ?_
   refine E_at ?_
   walk_at "go"
   refine at_ r.cx (A1.get (List.mem_append_right _ mM)) rfl ?_
   walk_at "go"
   exact ⟨_,.list (A1.get (List.mem_append_right _ mAL)) (by lia) (by (revert hn hnb hlas hk hps hfl2; lia)) (by simpa using rB_at g3),hq⟩
  have upL:∀ {σ₃:Sto} {vs' vs'':List V},At σ₃ W₁ (verH v fl' nl io sc' (-1) (ps.set j (a,vs'))++(mkH m b dl al s.dr ds as++H))→At (σ₃.set a (.list vs'')) W₁ (verH v fl' nl io sc' (-1) (ps.set j (a,vs''))++(mkH m b dl al s.dr ds as++H)):=fun {σ₃ vs' vs''} A3=>by
   have e0:(ps.set j (a,vs'))[j]?=some (a,vs'):=List.getElem?_set_self (by (revert hnb hlas hk hps hfl2; lia))
   have A4:=At.lset (P:=[(v,.inst 466 (verF nl io fl' sc' (-1))),(fl',.list (rB (ps.set j (a,vs'))))]) (X:=mkH m b dl al s.dr ds as++H) (vs':=vs'') (by unfold verH at A3; simpa using A3) e0
   unfold verH
   rw [show rB (ps.set j (a,vs''))=rB (ps.set j (a,vs')) by rw [rB_lset ea,rB_lset ea]]
   rw [List.set_set] at A4
   simpa using A4
  -- the base's files
  refine SS_cons (SX.mono (F:=fun f M' σ₃=>f=.next∧∃ acc o3,M'=[some (.ref m),some (.ref v),some (.int j),some (.ref a),o3,o4]∧Reps W₁ ((baseK s bfss j).map fmD) acc∧(baseK s bfss j).length≤100∧(∀ y∈baseK s bfss j,MtOk y) ∧
   At σ₃ W₁ (verH v fl' nl io sc' (-1) (ps.set j (a,acc))++(mkH m b dl al s.dr ds as++H))) ?_ ?_)
  ·walk_at "s"
   walk_at "s"
   walk_at "s"
   refine E_at ?_
   walk_at "go"
   refine at_ r.cx (A2.get mM) rfl ?_
   refine ⟨_,rfl,?_⟩
   unfold baseK
   cases hdr:s.dr with
   | true =>
    refine if_F ?_
    walk_at "s"
    rw [if_pos rfl]
    exact ⟨rfl,[],_,rfl,rfl,by simp,by simp,hdr▸A2⟩
   | false =>
    refine ite_pos (show (!false)=true from rfl) ?_
    rw [if_neg (show ¬ (false=true) by simp)]
    rw [hdr] at A2
    obtain ⟨⟨bl,bvs⟩,eb⟩:∃ p,bps[j]?=some p:=⟨_,List.getElem?_eq_getElem (by rw [hB.1]; (revert hnb hlas hk hps hfl2; lia))⟩
    have rb:=hB1.at eb
    have hbm:(bl,O.list bvs)∈H:=hbl _ (List.mem_of_getElem? eb)
    have hbl100:(bfss.getD j []).length≤100:=zb _ (by rw [List.getD_eq_getElem?_getD,List.getElem?_eq_getElem (by (revert hnb hlas hk hps hfl2; lia))]; exact List.getElem_mem _)
    have hbok:∀ y∈bfss.getD j [],MtOk y:=ob _ (by rw [List.getD_eq_getElem?_getD,List.getElem?_eq_getElem (by (revert hnb hlas hk hps hfl2; lia))]; exact List.getElem_mem _)
    rw [hdr] at mM mD mA mDL mAL mL eM eB dat aat upL
    walk_at "s"
    refine X_for ?_
    refine E_sub ?_
    refine E_at ?_
    refine E_at ?_
    walk_at "go"
    refine at_ r.cx (A2.get mM) rfl ?_
    refine at_ r.cx (A2.get (eB hb)) rfl ?_
    walk_at "go"
    refine ⟨.ref bl,.list (A2.get (eB hfl)) (by lia) (by (revert hn hnb hlas hk hps hfl2; lia)) (by simpa using rB_at eb),?_⟩
    refine ⟨bl,bvs,rfl,?_⟩
    suffices inner:∀ (rest:List V) (todo:List Mt) (acc:List V) (accM:List Mt) (o3:Option V) (σ₃:Sto),Reps W₁ (todo.map fmD) rest→accM++todo.filter (keep1 (s.ds.getD j []) (s.as.getD j []))=(bfss.getD j []).filter (keep1 (s.ds.getD j []) (s.as.getD j []))→accM.length≤100→Reps W₁ (accM.map fmD) acc →
      At σ₃ W₁ (verH v fl' nl io sc' (-1) (ps.set j (a,acc))++(mkH m b dl al false ds as++H))→ForG Φ _ _ (fun σ=>σ bl=some (.list bvs)) _ _ rest [some (.ref m),some (.ref v),some (.int j),some (.ref a),o3,o4] σ₃ from
     inner bvs _ [] [] o3 σ₂ rb rfl (by simp) rfl A2
    clear A2
    intro rest
    induction rest with
    | nil =>
     intro todo acc accM o3 σ₃ h1 h2 h3 h4 A3
     obtain rfl:=list_end h1
     simp only [List.filter_nil,List.append_nil] at h2
     refine ⟨A3.get (eB hbm),?_⟩
     walk_at "s"
     rw [← h2]
     refine ⟨rfl,acc,_,rfl,h4,h3,fun y hy=>?_,A3⟩
     rw [h2] at hy
     exact hbok y (List.mem_filter.mp hy).1
    | cons w rest ih3 =>
     intro todo acc accM o3 σ₃ h1 h2 h3 h4 A3
     obtain ⟨p,ra,rfl,⟨fa,rfl,hfa⟩,h1c⟩:=list_more h1
     have num:∀ {M:Loc} {p1 p2:Pos} {Q':KV} {R':KL} {L:Option V},Q' (.int p.n) σ₃→SE Φ (.Attribute (.Name (Str.ofString "meta") p1) (Str.ofString "number") p2) [some (.ref m),some (.ref v),some (.int j),some (.ref a),some (.ref fa),L] σ₃ Q' R':=by
      intro M p1 p2 Q' R' L hq
      refine E_at ?_
      walk_at "go"
      exact at_ r.cx (A3.le _ _ hfa) rfl hq
     refine ⟨A3.get (eB hbm),?_⟩
     refine (let M1:Loc:=_; let F1:KF:=_; SG_n (M':=M1) (K:=kSb _ _ F1 _) r.toRun rfl ?_)
     walk_at "s"
     walk_at "s"
     walk_at "s"
     refine num (M:=[]) ?_
     refine dat (M:=[]) (X:=[]) A3 ?_
     refine cop_in_dict (A3.get mD) ?_
     refine ⟨_,rfl,?_⟩
     rw [dget_g]
     cases hgd:gget kvs p.n with
     | some z =>
      refine if_T ?_
      walk_at "s"
      refine SX_cont ?_
      refine ih3 ra acc accM _ σ₃ h1c ?_ h3 h4 A3
      rw [← h2,List.filter_cons,if_neg]
      unfold keep1
      rw [← g2,hgd]; simp
     | none =>
      refine if_F ?_
      walk_at "s"
      walk_at "s"
      walk_at "s"
      walk_at "s"
      refine num (M:=[]) ?_
      refine aat (M:=[]) (X:=[]) A3 ?_
      refine cop_in_dict (A3.get mA) ?_
      refine ⟨_,rfl,?_⟩
      rw [dget_g,g4.getn]
      cases hga:gget (s.as.getD j []) p.n with
      | some z =>
       refine if_T ?_
       walk_at "s"
       refine SX_cont ?_
       refine ih3 ra acc accM _ σ₃ h1c ?_ h3 h4 A3
       rw [← h2,List.filter_cons,if_neg]
       unfold keep1
       rw [hga]; simp
      | none =>
       refine if_F ?_
       walk_at "s"
       walk_at "s"
       refine X_ex ?_
       refine E_app ?_
       walk_at "go"
       refine ⟨a,acc,rfl,A3.get mL,?_⟩
       walk_at "go"
       have hkp:keep1 (s.ds.getD j []) (s.as.getD j []) p=true:=by
        unfold keep1; rw [← g2,hgd,hga]; rfl
       rw [List.filter_cons,if_pos hkp] at h2
       have hal:accM.length+1≤100:=by
        have g1:=congrArg List.length h2
        simp only [List.length_append,List.length_cons] at g1
        have g2:=List.length_filter_le (keep1 (s.ds.getD j []) (s.as.getD j [])) (bfss.getD j [])
        (revert g1 g2 hbl100; lia)
       have hacl:acc.length=accM.length:=by rw [h4.length,List.length_map]
       refine l_append (A3.get mL) (by (revert h3 hal hacl; lia)) ?_
       have A4:=upL (vs'':=acc++[.ref fa]) A3
       walk_at "go"
       refine ih3 ra _ (accM++[p]) _ _ h1c (by rw [← h2]; simp) (by simpa using hal) ?_ A4
       rw [List.map_append]
       exact h4.snoc (⟨fa,rfl,hfa⟩)
  rintro f M' σ₃ ⟨rfl,acc,o3',rfl,hacc,hbl100,hbok,A3⟩
  clear A2
  walk_at "s"
  refine X_for ?_
  walk_at "go"
  refine aat (M:=[]) (X:=[]) A3 ?_
  walk_at "go"
  have har64:ars.length < 64:=by
   rw [g4.length]
   refine za _ ?_
   rw [List.getD_eq_getElem?_getD,List.getElem?_eq_getElem (by have:=is.na; (revert hnb hlas hk hps hfl2 this; lia))]
   exact List.getElem_mem _
  refine b_sorted_dict (r.ok.hand (Nat.succ_ne_zero _)) (A3.get mA) har64 fun D ms hD hp hs=>?_
  have A4:=A3.new (o:=.list (ms.map V.int)) hD
  refine ⟨D,ms.map V.int,rfl,?_⟩
  generalize σ₃.set D (.list (ms.map V.int))=σ₄ at A4
  rw [g4.keys] at hp
  have hmsl:ms.length < 64:=by rw [hp.length_eq,List.length_map,← g4.length]; exact har64
  suffices inner:∀ (todo done:List Int) (acc:List V) (gs:List Mt) (o4:Option V) (σ₅:Sto),ms=done++todo→Placed j (s.as.getD j []) (baseK s bfss j) done gs→gs.length≤100+done.length→(∀ y∈gs,MtOk y)→Reps W₁ (gs.map fmD) acc →
    At σ₅ W₁ ((D,.list (ms.map V.int))::(verH v fl' nl io sc' (-1) (ps.set j (a,acc))++(mkH m b dl al s.dr ds as++H)))→ForG Φ _ _ (fun σ=>σ D=some (.list (ms.map V.int))) _ _ (todo.map V.int) [some (.ref m),some (.ref v),some (.int j),some (.ref a),o3',o4] σ₅ from
   inner ms [] acc _ o4 σ₄ rfl .nil (by simpa using hbl100) hbok hacc A4
  clear A3 A4
  intro todo
  induction todo with
  | nil =>
   intro done acc gs o4 σ₅ h1 h2 h3 h4 h5 A5
   rw [List.append_nil] at h1
   subst h1
   refine ⟨A5.get (.head _),?_⟩
   walk_at "go"
   have hgl:gs.length≤1000:=by (revert hmsl h3; lia)
   have:=ih (j+1) (ps.set j (a,acc)) (fss.set j gs) (some (.int j)) (some (.ref a)) o3' o4 σ₅ (by (revert hnb hlas hk hps hfl2; lia)) (by simpa using hps) (fun i hi hin=>by
    by_cases hij:i=j
    ·subst hij
     rw [List.getD_eq_getElem?_getD,List.getElem?_set_self (by (revert hnb hlas hps hfl2 hin; lia))]
     exact ⟨ms,hp,hs,h2⟩
    ·rw [List.getD_eq_getElem?_getD,List.getElem?_set_ne (by (revert hij; lia)),← List.getD_eq_getElem?_getD]
     exact hF i (by (revert hi hij; lia)) hin) (fun i hi hin=>by
     rw [List.getD_eq_getElem?_getD,List.getElem?_set_ne (by (revert hi; lia)),← List.getD_eq_getElem?_getD]
     exact hE i (by (revert hi; lia)) hin) (fun fs hfs y hy=>by
     rcases mem_set hfs with rfl | hfs
     ·exact h4 y hy
     ·exact hok fs hfs y hy) (fun fs hfs=>by
     rcases mem_set hfs with rfl | hfs
     ·exact hgl
     ·exact hlen fs hfs) (hV.put h5) (A5.sub (List.sublist_cons_self _ _))
   simpa using this
  | cons nn todo ih3 =>
   intro done acc gs o4 σ₅ h1 h2 h3 h4 h5 A5
   have hnm:nn∈(s.as.getD j []).map (·.1):=hp.mem_iff.mp (by rw [h1]; simp)
   obtain ⟨y,hy⟩:=gget_mem hnm
   obtain ⟨fa,e1,hfa⟩:=g4.get hy
   have hoy:=oa j nn y hy
   refine ⟨A5.get (.head _),?_⟩
   refine (let M1:Loc:=_; let F1:KF:=_; SG_n (M':=M1) (K:=kSb _ _ F1 _) r.toRun rfl ?_)
   walk_at "s"
   refine X_ex ?_
   refine SE_meth r.ok rfl rfl rfl ?_
   walk_at "go"
   refine me_ r.cx (A5.get (.tail _ mM)) rfl ?_
   walk_at "go"
   refine E_sub ?_
   refine aat (M:=[]) (X:=[_]) A5 ?_
   walk_at "go"
   refine ⟨.ref fa,.dict (A5.get (.tail _ mA)) (by rw [dget_g]; exact e1),?_⟩
   walk_at "go"
   have hdl2:done.length < 64:=by have:=congrArg List.length h1; simp at this; (revert hmsl this; lia)
   refine ok_place r.cx (A5.get (.tail _ mM)) (A5.get (.tail _ (eB hb))) ((ho.mono L1).mono A5.le) (A5.le _ _ hfa) hoy (A5.get (.tail _ mL)) (h5.mono A5.le) h4 (by (revert h3 hdl2; lia)) fun k hk=>?_
   have A6:At _ W₁ _:=((A5.sub (List.sublist_cons_self _ _)))
   have A7:At (σ₅.set a (.list (acc.take k++.ref fa::acc.drop k))) W₁ ((D,.list (ms.map V.int))::(verH v fl' nl io sc' (-1) (ps.set j (a,acc.take k++.ref fa::acc.drop k))++(mkH m b dl al s.dr ds as++H))):=by
    have e0:(ps.set j (a,acc))[j]?=some (a,acc):=List.getElem?_set_self (by (refine' (?_:_→_→_) hps hk; lia))
    have A4:=At.lset (P:=[(D,.list (ms.map V.int)),(v,.inst 466 (verF nl io fl' sc' (-1))),(fl',.list (rB (ps.set j (a,acc))))]) (X:=mkH m b dl al s.dr ds as++H) (vs':=acc.take k++.ref fa::acc.drop k) (by unfold verH at A5; simpa using A5) e0
    unfold verH
    rw [show rB (ps.set j (a,acc.take k++.ref fa::acc.drop k))=rB (ps.set j (a,acc)) by rw [rB_lset ea,rB_lset ea]]
    rw [List.set_set] at A4
    simpa using A4
   walk_at "go"
   refine ih3 (done++[nn]) _ (gs.take k++y::gs.drop k) _ _ (by rw [h1]; simp) (h2.snoc hy hk) ?_ ?_ ?_ A7
   ·have h9:=congrArg List.length (List.take_append_drop k gs); rw [List.length_append] at h9; simp only [List.length_append,List.length_cons,List.length_nil]; (revert h3 h9; lia)
   ·intro z hz
    rcases List.mem_append.mp hz with hz | hz
    ·exact h4 z (List.mem_of_mem_take hz)
    ·rcases List.mem_cons.mp hz with rfl | hz
     ·exact hoy
     ·exact h4 z (List.mem_of_mem_drop hz)
   ·rw [List.map_append,List.map_cons,List.map_take,List.map_drop]
    exact h5.insert (by simp only [fmD,Rep]; exact ⟨fa,rfl,hfa⟩) k
end
theorem InFnC.run {c:Ctx} {n:Nat} {f:Addr} {xs rest cs:List Str} {scope:Scope} {cdv:Value} {qual:Str} {Φ:Act} (x:Cx c) (i:InFnC c n f xs rest cs scope cdv qual Φ) (hk:scope.kind=.function) (hc:∀ L,∃ v∈varsC xs rest cs scope L,v.2≠none) :
  ∃ L,Φ.env=envOfC qual scope L f cdv∧RunF Φ n (varsC xs rest cs scope L) scope:=by
 obtain ⟨L,e,hv⟩:=i.env
 refine ⟨L,e,⟨i.ok,hv,by rw [e]; rfl,i.ctx▸x⟩,i.comp,?_,?_,fun h=>?_⟩
 ·rw [e]; exact (blk (env:=envOfC qual scope L f cdv) hk).1
 ·rw [e]; exact (blk (env:=envOfC qual scope L f cdv) hk).2
 ·obtain ⟨v,hm,hn⟩:=hc L
  exact absurd (h v hm) hn
theorem InComp.runC {Φ Φ':Act} {n:Nat} {xs:List Str} {scope:Scope} {cl:List (Str×Addr)} {vs:Vars} {sc:Scope} (r:Run Φ n vs sc) (i:InComp Φ n true xs scope cl Φ'):Run Φ' n ((xs.map fun x=>(x,none))++cellVars vs) (relabel scope Φ.env):=by
 refine ⟨i.ok,i.vars.trans ?_,?_,i.ctx▸r.cx⟩
 ·unfold compVars; rw [if_pos rfl,r.vars]
 ·obtain ⟨C,e⟩:=i.env; rw [e]; rfl
theorem ST.mono {Φ:Act} {e:Expr} {M:Loc} {σ:Sto} {Q Q':KB} {R:KL} (h:ST Φ e M σ Q R) (k:∀ b σ',Q b σ'→Q' b σ'):ST Φ e M σ Q' R:=.mk <| .mk fun P s y =>
 wpAny_mono (h.1.1 P s y) (fun b s' x=>by obtain ⟨m,σ',y',q⟩:=x; exact ⟨m,σ',y',k _ _ q⟩) fun _ _ e=>e
noncomputable def hit (w u:Wd):Bool:=u.k == 0 || (u.l == w.l && u.n == w.n)
noncomputable def stand:List Wd→List (Int×Mt)
 | []=>[]
 | w::ws=>match w.m with
  | some m=>if w.k=2∧ws.filter (hit w)=[] then (w.l,m)::stand ws else stand ws
  | none=>stand ws
noncomputable def WdOk (w:Wd):Prop:=w.k=2→∃ m,w.m=some m
theorem stand_skip {w:Wd} {ws:List Wd} (h:¬ (w.k=2∧ws.filter (hit w)=[])):stand (w::ws)=stand ws:=by
 show (match w.m with | some m=>_ | none=>_)=_
 cases w.m with
 | none=>rfl
 | some m=>simp only; rw [if_neg h]
theorem stand_take {w:Wd} {ws:List Wd} {m:Mt} (hm:w.m=some m) (h:w.k=2) (h':ws.filter (hit w)=[]):stand (w::ws)=(w.l,m)::stand ws:=by
 show (match w.m with | some m=>_ | none=>_)=_
 rw [hm]; simp only; rw [if_pos ⟨h,h'⟩]
theorem stand_none {w:Wd} {ws:List Wd} (hm:w.m=none):stand (w::ws)=stand ws:=by
 show (match w.m with | some m=>_ | none=>_)=_
 rw [hm]
theorem stand_length (ws:List Wd):(stand ws).length≤ws.length:=by
 induction ws with
 | nil=>exact Nat.le_refl 0
 | cons w ws this =>
  by_cases h:w.k=2∧ws.filter (hit w)=[]
  ·cases hm:w.m with
   | none=>rw [stand_none hm]; exact Nat.le_succ_of_le this
   | some m=>rw [stand_take hm h.1 h.2]; exact Nat.succ_le_succ this
  ·rw [stand_skip h]; exact Nat.le_succ_of_le this
section
variable {c:Ctx} {n:Nat} {σ W:Sto} {Q:KV} {R:Sto→Prop} {H:List (Addr×O)}
theorem ok_law_stand (x:Cx c) (A:At σ W H) {a:Addr} {vs:List V} {ws:List Wd} (ha:W a=some (.list vs)) (hr:Reps W (ws.map wdD) vs) (hw:∀ w∈ws,WdOk w) (hz:ws.length≤1000)
  (q:∀ σ' W' t us,W.le W'→At σ' W' H→W' t=some (.list us)→Reps W' ((stand ws).map lmD) us→Q (.ref t) σ'):Call c (n+3) (.ref 573) [.ref a] σ Q R:=by
 refine Call.enterC (fn__law_stand x) rfl fun Φ f=>?_
 have hvars:∀ L,varsC args__law_stand rest__law_stand cels__law_stand (scopeOf 573) L=[(Str.ofString "words",none),(Str.ofString "stand",none),(Str.ofString "i",none),(Str.ofString "kind",none),(Str.ofString "meta",none),(Str.ofString "later",none),(Str.ofString "level",some (L+1)),(Str.ofString "number",some (L+1+1))]:=fun L=>rfl
 obtain ⟨L,he,r⟩:=f.run x rfl fun L=>⟨(Str.ofString "level",some (L+1)),by rw [hvars]; simp,by simp⟩
 rw [hvars] at r
 simp only [args__law_stand,rest__law_stand,cels__law_stand,List.map_cons,List.map_nil,List.cons_append,List.nil_append] at r ⊢
 have hlen:vs.length=ws.length:=by rw [hr.length,List.length_map]
 walk_at "s"
 walk_at "s"
 refine SE_list ?_
 walk_at "go"
 refine ⟨by simp,fun t ht=>?_⟩
 have A1:=A.new (o:=.list []) ht
 refine (let M1:Loc:=_; st_ (M':=M1) rfl ?_)
 walk_at "s"
 refine X_forr ?_
 walk_at "go"
 refine b_len_list (A1.fz ha) (by (revert hz hlen; lia)) ?_
 rw [hlen]
 refine ⟨_,rfl,by (revert hz hlen; lia),by (revert hz hlen; lia),?_⟩
 generalize σ.set t (.list [])=σ₁ at A1
 suffices main:∀ (k j:Nat) (acc:List V) (accM:List (Int×Mt)) (W₁ σ₂:Sto) (o2 o3 o4 o5 o6 o7:Option V),ws.length-j=k→accM++stand (ws.drop j)=stand ws→W.le W₁→Reps W₁ (accM.map lmD) acc→At σ₂ W₁ ((t,.list acc)::H) →
   ForG Φ _ _ (fun _=>True) _ _ (rng j ws.length) [some (.ref a),some (.ref t),o2,o3,o4,o5,o6,o7] σ₂ from
  main _ 0 [] [] W σ₁ none none none none none none rfl rfl (Sto.le_refl _) rfl A1
 intro k
 induction k with
 | zero =>
  intro j acc accM W₁ σ₂ o2 o3 o4 o5 o6 o7 hk h1 hW h2 A2
  rw [rng_nil (by (revert hlen hk; lia))]
  refine ⟨trivial,?_⟩
  walk_at "go"
  rw [List.drop_eq_nil_of_le (by (revert hlen hk; lia))] at h1
  simp only [stand,List.append_nil] at h1
  rw [h1] at h2
  exact q _ _ t acc (hW.trans' A2.fle) A2.freeze Sto.set_same (h2.mono A2.fle)
 | succ k ih =>
  intro j acc accM W₁ σ₂ o2 o3 o4 o5 o6 o7 hk h1 hW h2 A2
  rw [rng_cons (by (revert hlen hk; lia))]
  refine ⟨trivial,?_⟩
  refine (let M1:Loc:=_; let F1:KF:=_; SG_n (M':=M1) (K:=kSb _ _ F1 _) r.toRun rfl ?_)
  have hjl:j < ws.length:=by (revert hlen hk; lia)
  have ej:ws[j]?=some ws[j]:=List.getElem?_eq_getElem hjl
  obtain ⟨v,ev,rv⟩:=hr.at (i:=j) (x:=wdD ws[j]) (by rw [List.getElem?_map,ej]; rfl)
  have hdrop:ws.drop j=ws[j]::ws.drop (j+1):=(List.drop_eq_getElem_cons hjl)
  have hwj:=hw ws[j] (List.getElem_mem hjl)
  generalize ws[j]=w at ej rv hdrop hwj
  rw [hdrop] at h1
  obtain ⟨b,mv,rfl,hb,hmv⟩:=rep_wd.mp rv
  walk_at "s"
  refine SX_unpack r.ok rfl rfl ?_
  refine E_sub ?_
  walk_at "go"
  refine ⟨.ref b,.list (A2.fz (hW _ _ ha)) (by lia) (by (revert hz hlen hjl; lia)) (by simpa using ev),?_⟩
  rw [r.vars]
  refine ⟨b,_,_,rfl,A2.fz (hW _ _ hb),stsK_ok rfl,?_⟩
  have next:∀ {accM':List (Int×Mt)} {acc':List V} {W₂ σ₃:Sto} {o5:Option V},accM'++stand (ws.drop (j+1))=stand ws→W.le W₂→Reps W₂ (accM'.map lmD) acc'→At σ₃ W₂ ((t,.list acc')::H) →
    ForG Φ _ _ (fun _=>True) _ _ (rng ((j:Int)+1) ws.length) [some (.ref a),some (.ref t),some (.int j),some (.int w.k),some mv,o5,some (.int w.l),some (.int w.n)] σ₃:=fun {accM' acc' W₂ σ₃ o5} g1 g2 g3 g4=>by
   have:=ih (j+1) acc' accM' W₂ σ₃ (some (.int j)) (some (.int w.k)) (some mv) o5 (some (.int w.l)) (some (.int w.n)) (by (revert hlen hk hjl; lia)) g1 g2 g3 g4
   simpa using this
  walk_at "go"
  refine ct_ ?_
  by_cases hk2:w.k=2
  ·refine if_t hk2 ?_
   walk_at "s"
   refine SX_comp_list (n:=n+1) (b:=true) (xs:=[Str.ofString "word"]) (cl:=[(Str.ofString "number",L+1+1),(Str.ofString "level",L+1)]) r.ok ?_ (swaps_true r (by decide +kernel) rfl (by decide +kernel)) rfl (by intros; rfl) ?_
   ·have hnames:∀ sc:Scope,sc.names=[(Str.ofString ".0",.local),(Str.ofString "word",.local),(Str.ofString "level",.free),(Str.ofString "number",.free)]→(relabel sc Φ.env).names=[(Str.ofString ".0",.local),(Str.ofString "word",.local),(Str.ofString "level",.cell),(Str.ofString "number",.cell)]:=by
     intro sc hsc
     unfold relabel
     rw [hsc,he]
     rfl
    refine ⟨by rw [he]; rfl,rfl,by decide +kernel,by decide +kernel,by decide +kernel,fun y hy=>?_,fun _ v hv=>?_,?_,by decide +kernel⟩
    ·rw [hnames _ rfl]
     rw [List.mem_singleton] at hy; subst hy; simp
    ·rw [hnames _ rfl]
     rw [r.vars] at hv
     simp [cellVars] at hv
     rcases hv with rfl | rfl
     ·exact ⟨by simp,fun c hc=>by cases hc; rfl⟩
     ·exact ⟨by simp,fun c hc=>by cases hc; rfl⟩
    ·unfold compVars
     rw [r.vars]
     show ([Str.ofString "word",Str.ofString "level",Str.ofString "number"]:List Str).Nodup
     decide +kernel
   refine SE_slice_from (by intros; rfl) ?_
   walk_at "go"
   refine bo_ ?_
   refine ⟨a,vs,_,rfl,rfl,by lia,A2.fz (hW _ _ ha),by (revert hz hlen; lia),fun d hd=>?_⟩
   have ej1:((j:Int)+1).toNat=j+1:=by lia
   rw [ej1]
   have A3:=A2.newF (o:=.list (vs.drop (j+1))) hd
   have L3:=A2.newle (o:=.list (vs.drop (j+1))) hd
   refine ⟨d,vs.drop (j+1),rfl,Sto.set_same,fun Φ' i=>?_⟩
   have r':=i.runC r.toRun
   simp only [cellVars,List.map_cons,List.map_nil,List.filter_cons,List.filter_nil,Option.isSome_none,Option.isSome_some,Bool.false_eq_true,if_false,if_true,List.cons_append,List.nil_append] at r'
   have hcap:capM Φ true [some (V.ref a),some (V.ref t),some (V.int j),some (V.int w.k),some mv,o5,some (V.int w.l),some (V.int w.n)]=[some (V.int w.l),some (V.int w.n)]:=by
    unfold capM
    rw [r.vars]
    rfl
   rw [hcap]
   generalize σ₂.set d (.list (vs.drop (j+1)))=σ₃ at A3
   have hsrc:(W₁.set d (.list (vs.drop (j+1)))) d=some (.list (vs.drop (j+1))):=Sto.set_same
   generalize W₁.set d (.list (vs.drop (j+1)))=W₃ at A3 L3 hsrc
   suffices comp:∀ (rest:List V) (todo done:List Wd) (acc':List V) (σ₄:Sto),Reps W (todo.map wdD) rest→ws.drop (j+1)=done++todo→acc'.length=(done.filter (hit w)).length→At σ₄ W₃ ((t,.list acc)::H)→CG Φ' _ _ _ (fun σ=>σ d=some (.list (vs.drop (j+1)))) [some (V.int w.l),some (V.int w.n)] 1 _ rest acc' σ₄ from
    comp (vs.drop (j+1)) (ws.drop (j+1)) [] [] σ₃ (by rw [List.map_drop]; exact hr.drop (j+1)) rfl rfl A3
   intro rest
   induction rest with
   | nil =>
    intro todo done acc' σ₄ g1 g2 g3 A4
    obtain rfl:=list_end g1
    rw [List.append_nil] at g2
    refine ⟨A4.fz hsrc,fun D hD=>?_⟩
    rw [r.vars]
    refine (let M1:Loc:=_; st_ (M':=M1) rfl ?_)
    have A5:=A4.newF (o:=.list acc') hD
    have L5:=A4.newle (o:=.list acc') hD
    have hD5:(σ₄.set D (.list acc')) D=some (.list acc'):=Sto.set_same
    generalize σ₄.set D (.list acc')=σ₅ at A5 hD5
    generalize W₃.set D (.list acc')=W₅ at A5 L5
    have hdl:(done.filter (hit w)).length≤1000:=by
     have h1:=List.length_filter_le (hit w) done
     have h2:=congrArg List.length g2
     rw [List.length_drop] at h2
     (revert hz hlen hjl ej1 h1 h2; lia)
    walk_at "go"
    refine b_len_list hD5 (by (revert g3 hdl; lia)) ?_
    walk_at "go"
    refine ct_ ?_
    by_cases hnil:done.filter (hit w)=[]
    ·refine ite_pos (by rw [g3,hnil]; rfl) ?_
     obtain ⟨m,hm⟩:=hwj hk2
     rw [hm] at hmv
     walk_at "s"
     refine X_ex ?_
     refine E_app ?_
     walk_at "go"
     refine ⟨t,acc,rfl,A5.get (.head _),?_⟩
     walk_at "go"
     refine SE_tuple (by simp) ?_
     walk_at "go"
     refine ⟨by simp,fun t1 ht1=>?_⟩
     have A6:=A5.newF (o:=.tuple [.int w.l,mv]) ht1
     have L6:=A5.newle (o:=.tuple [.int w.l,mv]) ht1
     have hrep:Rep (W₅.set t1 (.tuple [.int w.l,mv])) (lmD (w.l,m)) (.ref t1):=rep_lm.mpr ⟨t1,mv,rfl,Sto.set_same,hmv.mono (hW.trans' (L3.trans' (L5.trans' L6)))⟩
     walk_at "go"
     have hal:acc.length≤1000:=by
      have:=congrArg List.length h1
      rw [stand_take hm hk2 (by rw [g2]; exact hnil)] at this
      simp only [List.length_append,List.length_cons] at this
      have h3:=stand_length ws
      have h4:=h2.length
      rw [List.length_map] at h4
      (revert hz hlen this h3 h4; lia)
     refine l_append (A6.get (.head _)) (by (revert hal; lia)) ?_
     have A7:=A6.upd (o':=.list (acc++[.ref t1]))
     walk_at "go"
     refine next (accM':=accM++[(w.l,m)]) ?_ (hW.trans' (L3.trans' (L5.trans' L6))) ?_ A7
     ·rw [← h1,stand_take hm hk2 (by rw [g2]; exact hnil)]; simp
     ·rw [List.map_append]
      exact (h2.mono (L3.trans' (L5.trans' L6))).snoc hrep
    ·refine ite_neg (by rw [g3]; simpa using hnil) ?_
     walk_at "s"
     walk_at "s"
     walk_at "s"
     refine next (accM':=accM) ?_ (hW.trans' (L3.trans' L5)) (h2.mono (L3.trans' L5)) A5
     rw [← h1,stand_skip (fun h=>hnil (by rw [← g2]; exact h.2))]
   | cons v rest ih2 =>
    intro todo done acc' σ₄ g1 g2 g3 A4
    obtain ⟨p,ra,rfl,hp,g1c⟩:=list_more g1
    obtain ⟨e,mv',rfl,hwe,hmv'⟩:=rep_wd.mp hp
    have hwe3:W₃ e=some (.tuple [.int p.k,.int p.l,.int p.n,mv']):=(hW.trans' L3) _ _ hwe
    have hdl:acc'.length≤1000:=by
     have h1:=List.length_filter_le (hit w) done
     have h2:=congrArg List.length g2
     rw [List.length_drop,List.length_append] at h2
     (revert hz hlen hjl ej1 g3 h1 h2; lia)
    refine ⟨A4.fz hsrc,by (revert g3 hdl; lia),fun tv htv=>?_⟩
    obtain ⟨t0,rfl⟩:=len1 htv
    refine SG_name' r' (stK_ok (M:=[t0,some (V.int w.l),some (V.int w.n)]) rfl) ?_
    refine ⟨[some (.ref e)],rfl,rfl,CT_one ?_⟩
    have item:∀ {M:Loc} {kk:Int} {k1:Nat} {p1 p2 p3:Pos} {v:V} {Q':KV} {R':KL},0≤kk→kk < 4→([V.int p.k,V.int p.l,V.int p.n,mv']:List V)[kk.toNat]?=some v→Q' v σ₄ →
      SE Φ' (.Subscript (.Name (Str.ofString "word") p1) (.Constant (.int kk) k1 p2) p3) [some (.ref e),some (V.int w.l),some (V.int w.n)] σ₄ Q' R':=by
     intro M kk k1 p1 p2 p3 v Q' R' h0 h1 hv hq
     refine E_sub ?_
     walk_at "go"
     exact ⟨_,.tuple (A4.fz hwe3) h0 (by (revert h0 h1; lia)) hv,hq⟩
    refine ST.mono (Q:=fun b σ'=>b=hit w p∧σ'=σ₄) ?_ (fun b σ' ⟨hb,hσ⟩=>?_)
    rotate_left
    ·subst hσ
     cases b with
     | true =>
      refine if_T ?_
      walk_at "s"
      refine ih2 ra (done++[p]) _ _ g1c (by rw [g2]; simp) ?_ A4
      rw [List.filter_append,List.length_append,List.length_append,g3,List.filter_cons,← hb]; rfl
     | false =>
      refine if_F ?_
      refine ih2 ra (done++[p]) _ _ g1c (by rw [g2]; simp) ?_ A4
      rw [List.filter_append,List.length_append,g3,List.filter_cons,← hb]; rfl
    walk_at "s"
    walk_at "s"
    walk_at "s"
    refine item (M:=[]) (v:=.int p.k) (by lia) (by lia) rfl ?_
    walk_at "go"
    refine ct_ ?_
    by_cases c1:p.k=0
    ·refine if_t c1 ?_
     refine ⟨?_,rfl⟩
     unfold hit; simp [c1]
    ·refine if_f c1 ?_
     walk_at "s"
     walk_at "s"
     walk_at "s"
     walk_at "s"
     refine item (M:=[]) (v:=.int p.l) (by lia) (by lia) rfl ?_
     walk_at "go"
     refine ct_ ?_
     by_cases c2:p.l=w.l
     ·refine if_t c2 ?_
      walk_at "s"
      walk_at "s"
      refine item (M:=[]) (v:=.int p.n) (by lia) (by lia) rfl ?_
      walk_at "go"
      refine ct_ ?_
      by_cases c3:p.n=w.n
      ·refine if_t c3 ?_
       walk_at "go"
       refine if_T ?_
       refine ⟨?_,rfl⟩
       unfold hit; simp [c2,c3]
      ·refine if_f c3 ?_
       refine if_F ?_
       walk_at "go"
       refine ⟨?_,rfl⟩
       unfold hit; simp [c1,c3]
     ·refine if_f c2 ?_
      refine if_F ?_
      walk_at "go"
      refine ⟨?_,rfl⟩
      unfold hit; simp [c1,c2]
  ·refine if_f hk2 ?_
   walk_at "s"
   walk_at "s"
   refine next ?_ hW h2 A2
   rw [← h1,stand_skip (fun h=>hk2 h.1)]
end
noncomputable def clash (p q:Int×Mt):Prop:=p.2.n=q.2.n∨(p.1=q.1∧0 < q.1∧p.2.lo.1≤q.2.hi.1∧q.2.lo.1≤p.2.hi.1)
noncomputable def good (st:List (Int×Mt)):Prop:=(∀ p∈st,cmpE p.2.lo p.2.hi≤0)∧st.Pairwise fun p q=>¬ clash p q
noncomputable def lvlK (k:Nat) (st:List (Int×Mt)):List Mt:=st.filterMap fun p=>if p.1=(k:Int) then some p.2 else none
noncomputable def LvOk (cnt:Nat) (st:List (Int×Mt)) (ls:List (List Mt)):Prop:=good st∧ls.length=cnt∧∀ k,k < cnt→(ls.getD k []).Perm (lvlK k st)∧(ls.getD k []).Pairwise fun a b=>befB k a b=true
noncomputable def LvRes (W:Sto) (cnt:Nat) (st:List (Int×Mt)) (v:V):Prop:=(v=.none∧¬ good st)∨∃ ls,LvOk cnt st ls∧Rep W (levD ls) v
theorem clash_symm {p q:Int×Mt} (h:¬ clash p q):¬ clash q p:=by
 unfold clash at *
 intro h'
 rcases h' with h' | ⟨h1,h2,h3,h4⟩
 ·exact h (.inl h'.symm)
 ·exact h (.inr ⟨h1.symm,by (revert h1 h2; lia),h4,h3⟩)
theorem gt_cmp (x y z w:Int):(if x=z then decide (y > w) else decide (x > z))=decide (0 < cmpE (x,y) (z,w)):=by
 unfold cmpE
 simp only
 by_cases h:x=z
 ·subst h
  rw [if_pos rfl,if_neg (by lia),if_neg (by lia)]
  by_cases h2:y < w
  ·rw [if_pos h2]; simp; (revert h2; lia)
  ·rw [if_neg h2]
   by_cases h3:w < y
   ·rw [if_pos h3]; simp; (revert h3; lia)
   ·rw [if_neg h3]; simp; (revert h2 h3; lia)
 ·rw [if_neg h]
  by_cases h2:x < z
  ·rw [if_pos h2]; simp; (revert h2; lia)
  ·rw [if_neg h2,if_pos (by (revert h h2; lia))]; simp; (revert h h2; lia)
theorem lt_cmp (p q:Int×Int):ltP p q=decide (cmpE p q < 0):=by
 obtain ⟨x,y⟩:=p
 obtain ⟨z,w⟩:=q
 unfold ltP cmpE
 simp only
 by_cases h:x=z
 ·subst h
  rw [if_pos rfl,if_neg (by lia),if_neg (by lia)]
  by_cases h2:y < w
  ·rw [if_pos h2]; simp; (revert h2; lia)
  ·rw [if_neg h2]
   by_cases h3:w < y
   ·rw [if_pos h3]; simp; (revert h3; lia)
   ·rw [if_neg h3]; simp; (revert h2 h3; lia)
 ·rw [if_neg h]
  by_cases h2:x < z
  ·rw [if_pos h2]; simp; (revert h2; lia)
  ·rw [if_neg h2,if_pos (by (revert h h2; lia))]; simp; (revert h2; lia)
theorem mem_lvlK {k:Nat} {st:List (Int×Mt)} {m:Mt}:m∈lvlK k st↔((k:Int),m)∈st:=by
 unfold lvlK
 rw [List.mem_filterMap]
 constructor
 ·rintro ⟨⟨l,m'⟩,h,e⟩
  simp only at e
  split at e
  ·rename_i hl; cases e; subst hl; exact h
  ·cases e
 ·intro h; exact ⟨_,h,by simp⟩
theorem lvlK_pw {k:Nat} {st:List (Int×Mt)} {R:Mt→Mt→Prop} (h:st.Pairwise fun p q=>p.1=(k:Int)→q.1=(k:Int)→R p.2 q.2):(lvlK k st).Pairwise R:=by
 unfold lvlK
 rw [List.pairwise_filterMap]
 refine h.imp ?_
 intro p q hpq b hb b' hb'
 split at hb
 ·split at hb'
  ·cases hb; cases hb'; rename_i h1 h2; exact hpq h1 h2
  ·cases hb'
 ·cases hb
theorem good_pw {k:Nat} {st:List (Int×Mt)} (h:good st):(lvlK k st).Pairwise fun a b=>a.n≠b.n∧(0 < k→¬ (a.lo.1≤b.hi.1∧b.lo.1≤a.hi.1)):=by
 refine lvlK_pw (h.2.imp ?_)
 intro p q hpq h1 h2
 unfold clash at hpq
 refine ⟨fun e=>hpq (.inl e),fun hk hh=>hpq (.inr ⟨by rw [h1,h2],by (revert h2 hk; lia),hh.1,hh.2⟩)⟩
theorem cmp_le {p q:Int×Int} (h:cmpE p q≤0):p.1≤q.1:=by
 unfold cmpE at h
 split at h
 ·rename_i h1; (revert h1; lia)
 ·rename_i h1
  split at h
  ·(revert h; lia)
  ·rename_i h2; (revert h2; lia)
theorem good_key {k:Nat} {st:List (Int×Mt)} (h:good st) (hk:0 < k):(lvlK k st).Pairwise fun a b=>a.lo≠b.lo:=by
 refine List.Pairwise.imp_of_mem ?_ (good_pw (k:=k) h)
 intro a b ha hb hab e
 have h1:=cmp_le (h.1 _ (mem_lvlK.mp ha))
 have h2:=cmp_le (h.1 _ (mem_lvlK.mp hb))
 simp only at h1 h2
 refine hab.2 hk ⟨?_,?_⟩
 ·rw [e]; exact h2
 ·rw [← e]; exact h1
theorem lvlK_snoc {k:Nat} {st:List (Int×Mt)} {p:Int×Mt}:lvlK k (st++[p])=if p.1=(k:Int) then lvlK k st++[p.2] else lvlK k st:=by
 unfold lvlK
 rw [List.filterMap_append]
 by_cases h:p.1=(k:Int)
 ·simp [h]
 ·simp [h]
theorem perm_pick {α:Type} {l:List α} {p:Array Nat} {d:α} (h:PermOk l.length p):(p.toList.map fun i=>l.getD i d).Perm l:=by
 have h1:=h.perm.map fun i=>l.getD i d
 have h2:(List.range l.length).map (fun i=>l.getD i d)=l:=by
  refine List.ext_getElem? fun i=>?_
  rw [List.getElem?_map]
  by_cases hi:i < l.length
  ·simp [hi,List.getD_eq_getElem?_getD]
  ·simp [hi]
 rwa [h2] at h1
theorem asc_pick {α:Type} {l:List α} {c:Nat→Nat→Bool} {p:Array Nat} {d:α} {R:α→α→Prop} (h:PermOk l.length p) (ha:Asc c p l.length) (hR:∀ i j,c i j=true→R (l.getD i d) (l.getD j d)):(p.toList.map fun i=>l.getD i d).Pairwise R:=by
 rw [List.pairwise_map,List.pairwise_iff_getElem]
 intro i j hi hj hij
 have hs:=h.size
 have hi':i < p.size:=by simpa using hi
 have hj':j < p.size:=by simpa using hj
 have:=ha i j hij (by (revert hs hj'; lia))
 have e:p.getD i 0=p[i]:=by simp [Array.getD,hi']
 have e2:p.getD j 0=p[j]:=by simp [Array.getD,hj']
 rw [e,e2] at this
 have:=hR _ _ this
 simpa using this
noncomputable def firD (k:Nat) (m:Mt):D:=.tup [if k=0 then .int m.n else endD m.lo,mtD m]
theorem rep_fir0 {σ:Sto} {m:Mt} {v:V}:Rep σ (firD 0 m) v↔∃ a w,v=.ref a∧σ a=some (.tuple [.int m.n,w])∧Rep σ (mtD m) w:=by
 constructor
 ·rintro ⟨a,vs,rfl,h,v1,w1,rfl,rfl,v2,w2,rfl,hr,rfl⟩; exact ⟨a,v2,rfl,h,hr⟩
 ·rintro ⟨a,w,rfl,h,hr⟩; exact ⟨a,_,rfl,h,_,_,rfl,rfl,w,_,rfl,hr,rfl⟩
theorem rep_fir1 {σ:Sto} {k:Nat} {m:Mt} {v:V} (hk:0 < k):Rep σ (firD k m) v↔∃ a f w,v=.ref a∧σ a=some (.tuple [.ref f,w])∧σ f=some (.tuple [.int m.lo.1,.int m.lo.2])∧Rep σ (mtD m) w:=by
 have:k≠0:=by (revert hk; lia)
 simp only [firD,if_neg this,Rep,Reps,rep_end]
 constructor
 ·rintro ⟨a,vs,rfl,h,v1,w1,rfl,⟨f,rfl,hf⟩,v2,w2,rfl,hr,rfl⟩; exact ⟨a,f,v2,rfl,h,hf,hr⟩
 ·rintro ⟨a,f,w,rfl,h,hf,hr⟩; exact ⟨a,_,rfl,h,_,_,rfl,⟨f,rfl,hf⟩,w,_,rfl,hr,rfl⟩
theorem rep_firm {σ:Sto} {k:Nat} {m:Mt} {v:V} (h:Rep σ (firD k m) v):∃ a f w,v=.ref a∧σ a=some (.tuple [f,w])∧Rep σ (mtD m) w:=by
 by_cases hk:k=0
 ·subst hk
  obtain ⟨a,w,h1,h2,h3⟩:=rep_fir0.mp h
  exact ⟨a,_,w,h1,h2,h3⟩
 ·obtain ⟨a,f,w,h1,h2,h3,h4⟩:=(rep_fir1 (by (revert hk; lia))).mp h
  exact ⟨a,_,w,h1,h2,h4⟩
theorem Reps.pick {σ:Sto} {ds:List D} {vs:List V} (h:Reps σ ds vs) (d:D) (l:List Nat) (hl:∀ i∈l,i < ds.length):Reps σ (l.map fun i=>ds.getD i d) (l.map fun i=>vs.getD i .none):=by
 induction l with
 | nil=>exact rfl
 | cons i l ih =>
  have hi:=hl i (.head _)
  obtain ⟨v,ev,rv⟩:=h.at (i:=i) (x:=ds.getD i d) (by rw [List.getD_eq_getElem?_getD,List.getElem?_eq_getElem hi]; rfl)
  refine ⟨_,_,rfl,?_,ih fun j hj=>hl j (.tail _ hj)⟩
  have e2:vs.getD i V.none=v:=by rw [List.getD_eq_getElem?_getD,ev]; rfl
  show Rep σ (ds.getD i d) (vs.getD i V.none)
  rw [e2]
  exact rv
noncomputable def mt0:Mt:=⟨0,0,(0,0),(0,0)⟩
theorem b_sorted_fir {Φ:Act} {n:Nat} {M:Loc} {σ W:Sto} {Q:KV} {R:KL} (ok:Φ.Ok n) {a:Addr} {vs:List V} {es:List Mt} {k:Nat} (e:σ a=some (.list vs)) (hW:W.le σ) (hr:Reps W (es.map (firD k)) vs) (h64:es.length < 64)
  (hn:es.Pairwise fun a b=>a.n≠b.n) (hlo:0 < k→es.Pairwise fun a b=>a.lo≠b.lo)
  (q:∀ (D:Addr) (es':List Mt) (vs':List V),σ D=none→es'.Perm es→(es'.Pairwise fun a b=>befB k a b=true)→Reps W (es'.map (firD k)) vs'→Q (.ref D) (σ.set D (.list vs'))) :
  ∀ vals,vals.map er=[.ref a]→SV Φ (call (.builtin "sorted") vals) M σ Q R:=by
 have hlen:vs.length=es.length:=by rw [hr.length,List.length_map]
 have hat:∀ i,i < vs.length→∃ v,vs[i]?=some v∧Rep σ (firD k (es.getD i mt0)) v:=fun i hi=>by
  obtain ⟨v,ev,rv⟩:=hr.at (i:=i) (x:=firD k (es.getD i mt0)) (by rw [List.getElem?_map,List.getElem?_eq_getElem (by (revert hlen hi; lia)),List.getD_eq_getElem?_getD,List.getElem?_eq_getElem (by (revert hlen hi; lia))]; rfl)
  exact ⟨v,ev,rv.mono hW⟩
 have hpw:∀ {R:Mt→Mt→Prop},es.Pairwise R→(∀ a b,R a b→R b a)→∀ i j,i < vs.length→j < vs.length→i≠j→R (es.getD i mt0) (es.getD j mt0):=fun {R} h hs i j hi hj hij=>by
  have h:=List.pairwise_iff_getElem.mp h
  rw [List.getD_eq_getElem?_getD,List.getD_eq_getElem?_getD,List.getElem?_eq_getElem (by (revert hlen hi; lia)),List.getElem?_eq_getElem (by (revert hlen hj; lia))]
  rcases Nat.lt_or_gt_of_ne hij with g | g
  ·exact h i j (by (revert hlen hi; lia)) (by (revert hlen hj; lia)) g
  ·exact hs _ _ (h j i (by (revert hlen hj; lia)) (by (revert hlen hi; lia)) g)
 have hpick:∀ p:Array Nat,PermOk vs.length p→Reps W ((p.toList.map fun i=>es.getD i mt0).map (firD k)) (p.toList.map fun i=>vs.getD i .none):=fun p hp=>by
  have:=hr.pick (firD k mt0) p.toList fun i hi=>by
   have:=hp.perm.mem_iff.mp hi
   simp at this
   simp; (revert hlen this; lia)
  rw [List.map_map]
  have e2:(fun i=>(es.map (firD k)).getD i (firD k mt0))=(firD k ∘ fun i=>es.getD i mt0):=by
   funext i
   simp only [Function.comp,List.getD_eq_getElem?_getD,List.getElem?_map]
   cases es[i]? <;> rfl
  rw [e2] at this
  exact this
 by_cases hk:k=0
 ·subst hk
  refine b_sorted_int1 ok (key:=fun i=>(es.getD i mt0).n) e (by (revert h64 hlen; lia)) (fun i hi=>?_) (fun i j hi hj he=>?_) fun D p hD hp hA=>?_
  ·obtain ⟨v,ev,rv⟩:=hat i hi
   obtain ⟨t,w,rfl,h1,_⟩:=rep_fir0.mp rv
   exact ⟨t,w,ev,h1⟩
  ·by_cases hij:i=j
   ·exact hij
   ·exact absurd he (hpw hn (fun _ _ h=>h.symm) i j hi hj hij)
  ·rw [hlen] at hp hA
   refine q D _ _ hD (perm_pick hp) (asc_pick hp hA fun i j h=>?_) (hpick p (by rw [hlen]; exact hp))
   unfold befB
   rw [if_neg (by simp)]
   exact h
 ·have hk0:0 < k:=by (revert hk; lia)
  refine b_sorted_pair1 ok (key:=fun i=>(es.getD i mt0).lo) e (by (revert h64 hlen; lia)) (fun i hi=>?_) (fun i j hi hj he=>?_) fun D p hD hp hA=>?_
  ·obtain ⟨v,ev,rv⟩:=hat i hi
   obtain ⟨t,f,w,rfl,h1,h2,_⟩:=(rep_fir1 hk0).mp rv
   exact ⟨t,f,w,ev,h1,h2⟩
  ·by_cases hij:i=j
   ·exact hij
   ·exact absurd he (hpw (hlo hk0) (fun _ _ h=>h.symm) i j hi hj hij)
  ·rw [hlen] at hp hA
   refine q D _ _ hD (perm_pick hp) (asc_pick hp hA fun i j h=>?_) (hpick p (by rw [hlen]; exact hp))
   rw [lt_cmp] at h
   simp only [decide_eq_true_eq] at h
   unfold befB
   rw [if_pos ⟨by (revert hk0; lia),by (revert h; lia)⟩]
   simpa using h
section
variable {c:Ctx} {n:Nat} {σ W:Sto} {Q:KV} {R:Sto→Prop} {H:List (Addr×O)}
theorem lB_snoc {a:Addr} {vs:List V} {ps:List (Addr×List V)} (A:At σ W ((a,.list vs)::(lB ps++H))):At σ W (lB (ps++[(a,vs)])++H):=by
 have:lB (ps++[(a,vs)])++H=lB ps++(a,.list vs)::H:=by simp [lB]
 rw [this]
 exact A.perm List.perm_middle.symm
theorem ok_law_levels (x:Cx c) (A:At σ W H) {a:Addr} {vs:List V} {ws:List Wd} {cnt:Nat} (ha:W a=some (.list vs)) (hr:Reps W (ws.map wdD) vs) (hw:∀ w∈ws,WdOk w) (hl:∀ p∈stand ws,0≤p.1∧p.1 < cnt) (hz:ws.length < 64) (hc:cnt≤10)
  (q:∀ σ' W' v,W.le W'→At σ' W' H→LvRes W' cnt (stand ws) v→Q v σ'):Call c (n+5) (.ref 578) [.ref a,.int cnt] σ Q R:=by
 let LL:=fun (x2 x3 x4 x5 x6 x7 x8:Option V)=>([some (.ref a),some (.int cnt),x2,x3,x4,x5,x6,x7,x8]:Loc)
 refine Call.go x (fn__law_levels x) fun Φ r=>?_
 refine (let M0:Loc:=_; (?_:SS _ _ M0 _ _ _))
 walk_at "go"
 refine ok_law_stand r.cx A ha hr hw (by (revert hz; lia)) fun σ₁ W₁ t us L1 A1 ht hus=>?_
 have hst64:(stand ws).length < 64:=by have:=stand_length ws; (revert hz this; lia)
 generalize stand ws=st at hl q hus hst64
 have husl:us.length=st.length:=by rw [hus.length,List.length_map]
 refine (let M1:Loc:=_; st_ (M':=M1) rfl ?_)
 walk_at "s"
 refine SX_comp_range1 (n:=n+3) (b:=false) (xs:=[Str.ofString "level"]) (cl:=[]) r.ok (by exact .plain) (swaps_true r (by decide +kernel) rfl (by decide +kernel)) rfl (by rw [r.scope]; exact of_decide_eq_true (by decide +kernel)) (r.cx.gb rfl) rfl (by intros; rfl) ?_
 walk_at "go"
 refine ⟨cnt,rfl,by (revert hc; lia),by (revert hc; lia),fun Φ' i=>?_⟩
 have r':=i.run r.toRun
 simp only [List.map_cons,List.map_nil] at r'
 have hcap:capM Φ false [some (V.ref a),some (V.int cnt),some (V.ref t),none,none,none,none,none,none]=[]:=rfl
 rw [hcap]
 suffices comp:∀ (k j:Nat) (ps:List (Addr×List V)) (σ₂:Sto),cnt-j=k→j≤cnt→ps.length=j→(∀ p∈ps,p.2=[])→At σ₂ W₁ (lB ps++H)→CG Φ' _ _ [] (fun _=>True) [] 1 _ (rng j cnt) (rB ps) σ₂ from
  comp _ 0 [] σ₁ rfl (by (revert hc; lia)) rfl (by simp) A1
 intro k
 induction k with
 | succ k ih =>
  intro j ps σ₂ hk hjc hps hpe A2
  rw [rng_cons (by (revert hk hjc hps; lia))]
  refine ⟨trivial,by rw [rB_length]; (revert hc hjc hps; lia),fun tv htv=>?_⟩
  obtain ⟨t0,rfl⟩:=len1 htv
  refine SG_name' r' (stK_ok (M:=[t0]) rfl) ?_
  refine ⟨[some (.int j)],rfl,rfl,CT_nil ?_⟩
  refine SE_list ?_
  walk_at "go"
  refine ⟨by simp,fun d hd=>?_⟩
  have A3:=lB_snoc (A2.new (o:=.list []) hd)
  have:=ih (j+1) (ps++[(d,[])]) _ (by (revert hk hjc hps; lia)) (by (revert hk hjc hps; lia)) (by simp [hps]) (fun p hp=>by
   rcases List.mem_append.mp hp with hp | hp
   ·exact hpe p hp
   ·rw [List.mem_singleton] at hp; subst hp; rfl) A3
  simpa [rB] using this
 | zero =>
 intro j ps σ₂ hk hjc hps hpe A2
 rw [rng_nil (by (revert hk hps; lia))]
 refine ⟨trivial,fun D hD=>?_⟩
 rw [r.vars]
 refine (let M1:Loc:=_; st_ (M':=M1) rfl ?_)
 have A3:=A2.new (o:=.list (rB ps)) hD
 generalize σ₂.set D (.list (rB ps))=σ₃ at A3
 clear A2
 have hpl:ps.length=cnt:=by (revert hk hjc hps; lia)
 walk_at "s"
 refine X_forr ?_
 walk_at "go"
 refine b_len_list (A3.fz ht) (by (revert hst64 husl; lia)) ?_
 rw [husl]
 refine ⟨_,rfl,by (revert hst64 husl; lia),by (revert hst64 husl; lia),?_⟩
 -- the loop over what stands
 suffices main:∀ (k j:Nat) (ps:List (Addr×List V)) (W₂ σ₃:Sto) (o4 o5 o6 o7 o8:Option V),st.length-j=k→j≤st.length→ps.length=cnt→W₁.le W₂→(∀ (k:Nat) (p:Addr×List V),ps[k]?=some p→Reps W₂ ((lvlK k (st.take j)).map (firD k)) p.2)→good (st.take j)→At σ₃ W₂ ((D,.list (rB ps))::(lB ps++H)) →
   ForG Φ _ _ (fun _=>True) _ _ (rng j st.length) (LL (some (.ref t)) (some (.ref D)) o4 o5 o6 o7 o8) σ₃ from
  main _ 0 ps W₁ σ₃ none none none none none rfl (by (revert hst64 husl; lia)) hpl (Sto.le_refl _) (fun k p hp=>by
   rw [hpe p (List.mem_of_getElem? hp)]; rfl) ⟨by simp,by simp⟩ A3
 clear A3 hpe hpl hps hjc hk ps j hD σ₂ A1 r' hcap
 intro k
 induction k with
 | succ k ih =>
  intro j ps W₂ σ₃ o4 o5 o6 o7 o8 hk hjl hpl hW hps hg A3
  rw [rng_cons (by (revert husl hk hjl; lia))]
  refine ⟨trivial,?_⟩
  refine (let M1:Loc:=_; let F1:KF:=_; SG_n (M':=M1) (K:=kSb _ _ F1 _) r.toRun rfl ?_)
  have hj:j < st.length:=by (revert husl hk hjl; lia)
  have ej:st[j]?=some st[j]:=List.getElem?_eq_getElem hj
  obtain ⟨v,ev,rv⟩:=hus.at (i:=j) (x:=lmD st[j]) (by rw [List.getElem?_map,ej]; rfl)
  have htk:st.take (j+1)=st.take j++[st[j]]:=by rw [List.take_add_one,ej]; rfl
  have hlj:=hl st[j] (List.getElem_mem hj)
  have hmem:st[j]∈st:=List.getElem_mem hj
  generalize st[j]=lm at ej rv htk hlj hmem
  obtain ⟨l,m⟩:=lm
  simp only at hlj
  obtain ⟨b,mv,rfl,hb,hmv⟩:=rep_lm.mp rv
  obtain ⟨ma,mlo,mhi,rfl,hma,hmlo,hmhi⟩:=rep_mt.mp hmv
  walk_at "s"
  refine SX_unpack r.ok rfl rfl ?_
  refine E_sub ?_
  walk_at "go"
  refine ⟨.ref b,.list (A3.fz (hW _ _ ht)) (by lia) (by (revert hst64 husl hj; lia)) (by simpa using ev),?_⟩
  rw [r.vars]
  refine ⟨b,_,_,rfl,A3.fz (hW _ _ hb),stsK_ok rfl,?_⟩
  have metaI:∀ {M:Loc} {kk:Int} {k1:Nat} {p1 p2 p3:Pos} {v:V} {Q':KV} {R':KL} {o7 o8:Option V} {σ₄:Sto},W₂.le σ₄→0≤kk→kk < 4→([V.int m.n,V.int m.s,V.ref mlo,V.ref mhi]:List V)[kk.toNat]?=some v→Q' v σ₄ →
    SE Φ (.Subscript (.Name (Str.ofString "meta") p1) (.Constant (.int kk) k1 p2) p3) (LL (some (.ref t)) (some (.ref D)) (some (.int j)) (some (.int l)) (some (.ref ma)) o7 o8) σ₄ Q' R':=by
   intro M kk k1 p1 p2 p3 v Q' R' o7 o8 σ₄ hσ h0 h1 hv hq
   refine E_sub ?_
   walk_at "go"
   exact ⟨_,.tuple (hσ _ _ (hW _ _ hma)) h0 (by (revert h0 h1; lia)) hv,hq⟩
  walk_at "go"
  refine metaI (M:=[]) A3.le (v:=.ref mlo) (by lia) (by lia) rfl ?_
  refine metaI (M:=[]) A3.le (v:=.ref mhi) (by lia) (by lia) rfl ?_
  refine cop_pair_gt r.ok (A3.fz (hW _ _ hmlo)) (A3.fz (hW _ _ hmhi)) ?_
  rw [gt_cmp]
  refine ⟨_,rfl,?_⟩
  by_cases hturn:0 < cmpE m.lo m.hi
  ·refine if_t hturn ?_
   walk_at "go"
   refine q _ _ _ (L1.trans' hW) ((A3.sub (List.sublist_cons_self _ _)).sub (List.sublist_append_right _ _)) (.inl ⟨rfl,fun hgood=>?_⟩)
   have:=hgood.1 _ hmem
   simp only at this
   (revert hturn this; lia)
  refine if_f hturn ?_
  walk_at "s"
  walk_at "s"
  refine X_for ?_
  refine SE_slice_upto (by intros; rfl) ?_
  walk_at "go"
  refine ⟨t,us,_,rfl,rfl,by lia,A3.fz (hW _ _ ht),by (revert hst64 husl; lia),fun d hd=>?_⟩
  rw [Int.toNat_natCast]
  have A4:=A3.newF (o:=.list (us.take j)) hd
  have L4:=A3.newle (o:=.list (us.take j)) hd
  have hdW:(W₂.set d (.list (us.take j))) d=some (.list (us.take j)):=Sto.set_same
  refine ⟨d,us.take j,rfl,?_⟩
  generalize σ₃.set d (.list (us.take j))=σ₄ at A4
  generalize W₂.set d (.list (us.take j))=W₃ at A4 L4 hdW
  suffices inner:∀ (rest:List V) (done todo:List (Int×Mt)) (o7 o8:Option V),st.take j=done++todo→Reps W₁ (todo.map lmD) rest→(∀ p∈done,¬ clash p (l,m))→ForG Φ _ _ (fun σ=>σ d=some (.list (us.take j))) _ _ rest (LL (some (.ref t)) (some (.ref D)) (some (.int j)) (some (.int l)) (some (.ref ma)) o7 o8) σ₄ from
   inner (us.take j) [] (st.take j) o7 o8 rfl (by rw [List.map_take]; exact hus.take j) (by simp)
  clear A3 hd σ₃
  have none':∀ p∈st.take j,clash p (l,m)→¬ good st:=fun p hp hcl hgood=>by
   have h1:=hgood.2
   rw [← List.take_append_drop (j+1) st,List.pairwise_append,htk,List.pairwise_append] at h1
   exact h1.1.2.2 p hp (l,m) (by simp) hcl
  have A4H:At σ₄ W₃ H:=(A4.sub (List.sublist_cons_self _ _)).sub (List.sublist_append_right _ _)
  intro rest
  induction rest with
  | cons v rest ih2 =>
   intro done todo o7 o8 g1 g2 g3
   obtain ⟨p,ra,rfl,hp,g2c⟩:=list_more g2
   obtain ⟨pl,pm⟩:=p
   obtain ⟨pb,pmv,rfl,hpb,hpmv⟩:=rep_lm.mp hp
   obtain ⟨pa,plo,phi,rfl,hpa,hplo,hphi⟩:=rep_mt.mp hpmv
   have hW3:W₁.le σ₄:=(hW.trans' L4).trans' A4.le
   have hpmem:(pl,pm)∈st.take j:=by rw [g1]; simp
   refine ⟨A4.fz hdW,?_⟩
   refine (let M1:Loc:=_; let F1:KF:=_; SG_t (M':=M1) (K:=kSb _ _ F1 _) r.toRun (hW3 _ _ hpb) rfl ?_)
   have its:∀ {M:Loc} {kk:Int} {k1:Nat} {p1 p2 p3:Pos} {v:V} {Q':KV} {R':KL} {o7:Option V},0≤kk→kk < 4→([V.int pm.n,V.int pm.s,V.ref plo,V.ref phi]:List V)[kk.toNat]?=some v→Q' v σ₄ →
     SE Φ (.Subscript (.Name (Str.ofString "its") p1) (.Constant (.int kk) k1 p2) p3) (LL (some (.ref t)) (some (.ref D)) (some (.int j)) (some (.int l)) (some (.ref ma)) o7 (some (.ref pa))) σ₄ Q' R':=by
    intro M kk k1 p1 p2 p3 v Q' R' o7 h0 h1 hv hq
    refine E_sub ?_
    walk_at "go"
    exact ⟨_,.tuple (hW3 _ _ hpa) h0 (by (revert h0 h1; lia)) hv,hq⟩
   have metaI':∀ {M:Loc} {kk:Int} {k1:Nat} {p1 p2 p3:Pos} {v:V} {Q':KV} {R':KL} {o7 o8:Option V},0≤kk→kk < 4→([V.int m.n,V.int m.s,V.ref mlo,V.ref mhi]:List V)[kk.toNat]?=some v→Q' v σ₄ →
    SE Φ (.Subscript (.Name (Str.ofString "meta") p1) (.Constant (.int kk) k1 p2) p3) (LL (some (.ref t)) (some (.ref D)) (some (.int j)) (some (.int l)) (some (.ref ma)) o7 o8) σ₄ Q' R' :=
    fun {M kk k1 p1 p2 p3 v Q' R' o7 o8} h0 h1 hv hq=>metaI (M:=[]) (L4.trans' A4.le) h0 h1 hv hq
   walk_at "s"
   walk_at "s"
   walk_at "s"
   refine its (M:=[]) (v:=.int pm.n) (by lia) (by lia) rfl ?_
   refine metaI' (M:=[]) (v:=.int m.n) (by lia) (by lia) rfl ?_
   refine ct_ ?_
   by_cases c0:pm.n=m.n
   ·refine if_t c0 ?_
    walk_at "go"
    exact q _ _ _ (L1.trans' (hW.trans' L4)) A4H (.inl ⟨rfl,none' _ hpmem (.inl c0)⟩)
   refine if_f c0 ?_
   walk_at "s"
   have go:¬ clash (pl,pm) (l,m)→ForG Φ _ _ (fun σ=>σ d=some (.list (us.take j))) _ _ rest (LL (some (.ref t)) (some (.ref D)) (some (.int j)) (some (.int l)) (some (.ref ma)) (some (.int pl)) (some (.ref pa))) σ₄:=fun hcl =>
    ih2 (done++[(pl,pm)]) ra _ _ (by rw [g1]; simp) g2c (fun p' hp'=>by
     rcases List.mem_append.mp hp' with hp' | hp'
     ·exact g3 p' hp'
     ·rw [List.mem_singleton] at hp'; subst hp'; exact hcl)
   walk_at "go"
   refine ct_ ?_
   by_cases c1:pl=l
   case neg =>
    refine if_f c1 ?_
    refine if_F ?_
    walk_at "go"
    walk_at "go"
    refine go ?_
    rintro (h | ⟨h,_⟩)
    ·exact c0 h
    ·exact c1 h
   refine if_t c1 ?_
   walk_at "go"
   refine ct_ ?_
   by_cases c2:0 < l
   case neg =>
    refine if_f c2 ?_
    refine if_F ?_
    walk_at "go"
    walk_at "go"
    refine go ?_
    rintro (h | ⟨_,h,_⟩)
    ·exact c0 h
    ·exact c2 h
   refine if_t c2 ?_
   walk_at "s"
   walk_at "s"
   refine E_sub ?_
   refine its (M:=[]) (v:=.ref plo) (by lia) (by lia) rfl ?_
   walk_at "go"
   refine ⟨.int pm.lo.1,.tuple (hW3 _ _ hplo) (by lia) (by lia) rfl,?_⟩
   refine E_sub ?_
   refine metaI' (M:=[]) (v:=.ref mhi) (by lia) (by lia) rfl ?_
   walk_at "go"
   refine ⟨.int m.hi.1,.tuple (hW3 _ _ hmhi) (by lia) (by lia) rfl,?_⟩
   refine ct_ ?_
   by_cases c3:pm.lo.1≤m.hi.1
   case neg =>
    refine if_f c3 ?_
    refine if_F ?_
    walk_at "go"
    walk_at "go"
    refine go ?_
    rintro (h | ⟨_,_,h,_⟩)
    ·exact c0 h
    ·exact c3 h
   refine if_t c3 ?_
   walk_at "s"
   walk_at "s"
   refine E_sub ?_
   refine metaI' (M:=[]) (v:=.ref mlo) (by lia) (by lia) rfl ?_
   walk_at "go"
   refine ⟨.int m.lo.1,.tuple (hW3 _ _ hmlo) (by lia) (by lia) rfl,?_⟩
   refine E_sub ?_
   refine its (M:=[]) (v:=.ref phi) (by lia) (by lia) rfl ?_
   walk_at "go"
   refine ⟨.int pm.hi.1,.tuple (hW3 _ _ hphi) (by lia) (by lia) rfl,?_⟩
   refine ct_ ?_
   by_cases c4:m.lo.1≤pm.hi.1
   ·refine if_t c4 ?_
    walk_at "go"
    try refine ite_pos (by rfl) ?_
    walk_at "go"
    exact q _ _ _ (L1.trans' (hW.trans' L4)) A4H (.inl ⟨rfl,none' _ hpmem (.inr ⟨c1,c2,c3,c4⟩)⟩)
   ·refine if_f c4 ?_
    refine if_F ?_
    walk_at "go"
    walk_at "go"
    refine go ?_
    rintro (h | ⟨_,_,_,h⟩)
    ·exact c0 h
    ·exact c4 h
  | nil =>
  intro done todo o7 o8 g1 g2 g3
  obtain rfl:=list_end g2
  rw [List.append_nil] at g1
  subst g1
  refine ⟨A4.fz hdW,?_⟩
  obtain ⟨l',rfl⟩:∃ l':Nat,l=(l':Int):=⟨l.toNat,by (revert hlj; lia)⟩
  obtain ⟨⟨la,lvs⟩,ela⟩:∃ p,ps[l']?=some p:=⟨_,List.getElem?_eq_getElem (by (revert hpl hlj; lia))⟩
  have hlr:=hps _ _ ela
  walk_at "s"
  refine X_ex ?_
  refine E_app ?_
  refine E_sub ?_
  walk_at "go"
  refine ⟨.ref la,.list (A4.get (.head _)) (by (revert hlj; lia)) (by (revert hc hpl hlj; lia)) (by simpa using rB_at ela),?_⟩
  refine ⟨la,lvs,rfl,A4.get (.tail _ (List.mem_append_left _ (lB_mem ela))),?_⟩
  walk_at "go"
  refine SE_tuple (by simp) ?_
  walk_at "go"
  refine ct_ ?_
  have hlvl:lvs.length≤64:=by
   rw [hlr.length,List.length_map]
   have h1:=List.length_filterMap_le (fun p:Int×Mt=>if p.1=(l':Int) then some p.2 else none) (st.take j)
   have h2:(st.take j).length≤st.length:=by rw [List.length_take]; exact Nat.min_le_right ..
   have:(lvlK l' (st.take j)).length≤(st.take j).length:=h1
   (revert hst64 husl h2 this; lia)
  have fin:∀ {t1:Addr} {fv:V} {σ₅:Sto},σ₄ t1=none→σ₅=(σ₄.set t1 (.tuple [fv,.ref ma])).set la (.list (lvs++[.ref t1]))→Rep (W₃.set t1 (.tuple [fv,.ref ma])) (firD l' m) (.ref t1) →
    ForG Φ _ _ (fun _=>True) _ _ (rng ((j:Int)+1) st.length) (LL (some (.ref t)) (some (.ref D)) (some (.int j)) (some (.int (l':Int))) (some (.ref ma)) o7 o8) σ₅:=fun {t1 fv σ₅} h1 e5 hrep=>by
   subst e5
   have A5:=A4.newF (o:=.tuple [fv,.ref ma]) h1
   have L5:=A4.newle (o:=.tuple [fv,.ref ma]) h1
   have A6:=At.lset (P:=[(D,.list (rB ps))]) (vs':=lvs++[.ref t1]) A5 ela
   have er1:rB (ps.set l' (la,lvs++[.ref t1]))=rB ps:=rB_lset ela
   have:=ih (j+1) (ps.set l' (la,lvs++[.ref t1])) _ _ (some (.int j)) (some (.int (l':Int))) (some (.ref ma)) o7 o8 (by (revert husl hk hj; lia)) (by (revert husl hj; lia)) (by simpa using hpl) (hW.trans' (L4.trans' L5)) (fun kk p hp=>by
    rw [htk,lvlK_snoc]
    by_cases hkk:kk=l'
    ·subst hkk
     rw [List.getElem?_set_self (by (revert hpl hlj; lia))] at hp
     cases hp
     rw [if_pos rfl,List.map_append]
     exact (hlr.mono (L4.trans' L5)).snoc hrep
    ·rw [List.getElem?_set_ne (by (revert hkk; lia))] at hp
     rw [if_neg (show ¬ ((l':Int)=(kk:Int)) by (revert hkk; lia))]
     exact (hps kk p hp).mono (L4.trans' L5)) (by
    rw [htk]
    refine ⟨fun p hp=>?_,?_⟩
    ·rcases List.mem_append.mp hp with hp | hp
     ·exact hg.1 p hp
     ·rw [List.mem_singleton] at hp; subst hp; simp only; (revert hturn; lia)
    ·rw [List.pairwise_append]
     refine ⟨hg.2,by simp,fun p hp p' hp'=>?_⟩
     rw [List.mem_singleton] at hp'; subst hp'
     exact g3 p hp) (by rw [er1]; exact A6)
   simpa using this
  by_cases hl0:l'=0
  ·refine ite_pos (by simpa using hl0) ?_
   refine metaI (M:=[]) (L4.trans' A4.le) (v:=.int m.n) (by lia) (by lia) rfl ?_
   walk_at "go"
   refine ⟨by simp,fun t1 ht1=>?_⟩
   walk_at "go"
   have A5:=A4.newF (o:=.tuple [.int m.n,.ref ma]) ht1
   refine l_append (A5.get (.tail _ (List.mem_append_left _ (lB_mem ela)))) (by (revert hlvl; lia)) ?_
   walk_at "go"
   refine fin ht1 rfl ?_
   rw [hl0]
   exact rep_fir0.mpr ⟨t1,_,rfl,Sto.set_same,hmv.mono ((hW.trans' L4).trans' (A4.newle ht1))⟩
  ·refine ite_neg (by simpa using hl0) ?_
   refine metaI (M:=[]) (L4.trans' A4.le) (v:=.ref mlo) (by lia) (by lia) rfl ?_
   walk_at "go"
   refine ⟨by simp,fun t1 ht1=>?_⟩
   walk_at "go"
   have A5:=A4.newF (o:=.tuple [.ref mlo,.ref ma]) ht1
   refine l_append (A5.get (.tail _ (List.mem_append_left _ (lB_mem ela)))) (by (revert hlvl; lia)) ?_
   walk_at "go"
   refine fin ht1 rfl ?_
   exact (rep_fir1 (by (revert hlj hl0; lia))).mpr ⟨t1,_,_,rfl,Sto.set_same,((hW.trans' L4).trans' (A4.newle ht1)) _ _ hmlo,hmv.mono ((hW.trans' L4).trans' (A4.newle ht1))⟩
 | zero =>
 intro j ps W₂ σ₃ o4 o5 o6 o7 o8 hk hjl hpl hW hps hg A3
 rw [rng_nil (by (revert husl hk; lia))]
 refine ⟨trivial,?_⟩
 have hjst:st.take j=st:=List.take_of_length_le (by (revert husl hk; lia))
 rw [hjst] at hps hg
 have hlen2:∀ k',(lvlK k' st).length < 64:=fun k'=>by
  have:(lvlK k' st).length≤st.length:=List.length_filterMap_le _ st
  (revert hst64 husl this; lia)
 walk_at "s"
 walk_at "s"
 refine SE_comp_list (n:=n+3) (b:=false) (xs:=[Str.ofString "files"]) (cl:=[]) r.ok (by exact .plain) rfl (by intros; rfl) ?_
 walk_at "go"
 refine ⟨D,rB ps,rfl,A3.get (.head _),fun Φ' i=>?_⟩
 have r':=i.run r.toRun
 simp only [List.map_cons,List.map_nil] at r'
 have hcap:∀ {M:Loc},capM Φ false M=[]:=rfl
 rw [hcap]
 suffices outer:∀ (k j:Nat) (lsd:List (List Mt)) (acc:List V) (W₃ σ₄:Sto),cnt-j=k→j≤cnt→W₂.le W₃→lsd.length=j→(∀ i,i < j→(lsd.getD i []).Perm (lvlK i st)∧(lsd.getD i []).Pairwise fun a b=>befB i a b=true)→Reps W₃ (lsd.map fun fs=>Mine.Internal.D.lst (fs.map mtD)) acc→At σ₄ W₃ ((D,.list (rB ps))::(lB ps++H)) →
   CG Φ' _ _ [] (fun σ=>σ D=some (.list (rB ps))) [] 1 _ ((rB ps).drop j) acc σ₄ from
  outer _ 0 [] [] W₂ σ₃ rfl (by (refine' (?_:_→_→_) hc hpl; lia)) (Sto.le_refl _) rfl (fun _ h=>(Nat.not_lt_zero _ h).elim) rfl A3
 clear A3
 intro k
 induction k with
 | zero =>
  intro j lsd acc W₃ σ₄ hk hjc hW3 h1 h2 h3 A4
  rw [List.drop_eq_nil_of_le (by rw [rB_length]; (revert hpl hk h1; lia))]
  refine ⟨A4.get (.head _),fun D2 hD2=>?_⟩
  have A5:=A4.newF (o:=.list acc) hD2
  have L5:=A4.newle (o:=.list acc) hD2
  refine q _ _ _ (L1.trans' (hW.trans' (hW3.trans' L5))) ((A5.sub (List.sublist_cons_self _ _)).sub (List.sublist_append_right _ _)) (.inr ⟨lsd,⟨hg,by (revert hpl hk hjc h1; lia),fun i hi=>h2 i (by (revert hpl hk hjc h1 hi; lia))⟩,?_⟩)
  exact ⟨D2,acc,rfl,Sto.set_same,h3.mono L5⟩
 | succ k ih =>
  intro j lsd acc W₃ σ₄ hk hjc hW3 h1 h2 h3 A4
  obtain ⟨⟨la,lvs⟩,ela⟩:∃ p,ps[j]?=some p:=⟨_,List.getElem?_eq_getElem (by (revert hpl hk hjc h1; lia))⟩
  have hdrop:(rB ps).drop j=V.ref la::(rB ps).drop (j+1):=by
   have h:=rB_at ela
   have hl:=(List.getElem?_eq_some_iff.mp h).1
   rw [List.drop_eq_getElem_cons hl,(List.getElem?_eq_some_iff.mp h).2]
  rw [hdrop]
  have hacl:acc.length=j:=by rw [h3.length,List.length_map,h1]
  refine ⟨A4.get (.head _),by (revert hc hpl hjc h1 hacl; lia),fun tv htv=>?_⟩
  obtain ⟨t0,rfl⟩:=len1 htv
  refine SG_name' r' (stK_ok (M:=[t0]) rfl) ?_
  refine ⟨[some (.ref la)],rfl,rfl,CT_nil ?_⟩
  refine SE_comp_list (n:=n+3) (b:=false) (xs:=[Str.ofString "first",Str.ofString "meta"]) (cl:=[]) r'.ok (by exact .plain) rfl (by intros; rfl) ?_
  refine SE_bc r' (globalImplicit_relabel (by decide +kernel)) (r'.cx.gb rfl) rfl rfl ?_
  walk_at "go"
  have hlr:=(hps _ _ ela).mono hW3
  have hgp:=good_pw (k:=j) hg
  refine b_sorted_fir r'.ok (k:=j) (es:=lvlK j st) (A4.get (.tail _ (List.mem_append_left _ (lB_mem ela)))) A4.le hlr (hlen2 j) (hgp.imp fun h=>h.1) (fun h0=>good_key hg h0) fun D2 es' vs' hD2 hp hpw hrep=>?_
  have A5:=A4.newF (o:=.list vs') hD2
  have L5:=A4.newle (o:=.list vs') hD2
  have hD2W:(W₃.set D2 (.list vs')) D2=some (.list vs'):=Sto.set_same
  refine ⟨D2,vs',rfl,Sto.set_same,fun Φ'' i2=>?_⟩
  have r'':=i2.run r'
  simp only [List.map_cons,List.map_nil] at r''
  have hcap2:∀ {M:Loc},capM Φ' false M=[]:=rfl
  rw [hcap2]
  have hes64:es'.length < 64:=by rw [hp.length_eq]; exact hlen2 j
  have hvl:vs'.length=es'.length:=by rw [hrep.length,List.length_map]
  have hrep2:=hrep.mono L5
  generalize σ₄.set D2 (.list vs')=σ₅ at A5
  clear hrep
  generalize W₃.set D2 (.list vs')=W₅ at A5 L5 hD2W hrep2
  suffices inner:∀ (rest:List V) (done todo:List Mt) (acc2:List V),es'=done++todo→Reps W₅ (todo.map (firD j)) rest→Reps W₅ (done.map mtD) acc2 →
    CG Φ'' _ _ [] (fun σ=>σ D2=some (.list vs')) [] 2 _ rest acc2 σ₅ from
   inner vs' [] es' [] rfl hrep2 rfl
  intro rest
  induction rest with
  | nil =>
   intro done todo acc2 g1 g2 g3
   obtain rfl:=list_end g2
   rw [List.append_nil] at g1
   subst g1
   refine ⟨A5.fz hD2W,fun D3 hD3=>?_⟩
   have A6:=A5.newF (o:=.list acc2) hD3
   have L6:=A5.newle (o:=.list acc2) hD3
   refine ih (j+1) (lsd++[es']) _ _ _ (by (revert hpl hk hjc h1 hacl; lia)) (by (revert hpl hk hjc h1 hacl; lia)) (hW3.trans' (L5.trans' L6)) (by simp [h1]) (fun i hi=>?_) ?_ A6
   ·by_cases hij:i=j
    ·subst hij
     have:(lsd++[es']).getD i []=es':=by
      rw [List.getD_eq_getElem?_getD,List.getElem?_append_right (by (revert h1; lia)),h1]; simp
     rw [this]
     exact ⟨hp,hpw⟩
    ·have:(lsd++[es']).getD i []=lsd.getD i []:=by
      rw [List.getD_eq_getElem?_getD,List.getElem?_append_left (by (revert h1 hacl hi hij; lia)),List.getD_eq_getElem?_getD]
     rw [this]
     exact h2 i (by (revert h1 hacl hi hij; lia))
   ·rw [List.map_append]
    refine (h3.mono (L5.trans' L6)).snoc ?_
    exact ⟨D3,acc2,rfl,Sto.set_same,g3.mono L6⟩
  | cons v rest ih2 =>
   intro done todo acc2 g1 g2 g3
   obtain ⟨p,ra,rfl,hpp,g2c⟩:=list_more g2
   obtain ⟨fa,fv,mv,rfl,hfa,hmv⟩:=rep_firm hpp
   refine ⟨A5.fz hD2W,?_,fun tv htv=>?_⟩
   ·have k1:=g3.length
    rw [List.length_map] at k1
    have k2:=congrArg List.length g1
    simp only [List.length_append,List.length_cons] at k2
    (revert k1 k2 hes64; lia)
   obtain ⟨t0,t1,rfl⟩:=len2 htv
   refine SG_t (M:=[t0,t1]) r'' (A5.fz hfa) rfl ?_
   refine ⟨[some fv,some mv],rfl,rfl,CT_nil ?_⟩
   walk_at "s"
   refine ih2 (done++[p]) ra _ (by rw [g1]; simp) g2c ?_
   rw [List.map_append]
   exact g3.snoc hmv
end
noncomputable def full (ls:List (List Mt)) (lt bb lf:Int) (k:Nat):Int×Int:=if k=0 then (((ls.getD 0 []).length:Int),lt) else (octs ls k,bb*lf ^ (k-1))
noncomputable def fP (f:Nat→Int×Int) (K i:Nat):Prop:=∀ j,j < K→¬ ((f i).1*(f j).2 < (f j).1*(f i).2)
theorem pow_pos' {lf:Int} (f0:1≤lf) (k:Nat):0 < lf ^ k:=Int.pow_pos f0
theorem full_pos {ls:List (List Mt)} {lt bb lf:Int} (l0:1≤lt) (b0:1≤bb) (f0:1≤lf) (k:Nat):0 < (full ls lt bb lf k).2:=by
 unfold full
 split
 ·exact l0
 ·exact Int.mul_pos (by (revert b0; lia)) (pow_pos' f0 _)
theorem frac_trans {a b c d e f:Int} (hb:0 < b) (hd:0 < d) (hf:0 < f) (h1:a*d≤c*b) (h2:c*f≤e*d):a*f≤e*b:=by
 have h3:(a*d)*f≤(c*b)*f:=Int.mul_le_mul_of_nonneg_right h1 (by (revert hf; lia))
 have h4:(c*f)*b≤(e*d)*b:=Int.mul_le_mul_of_nonneg_right h2 (by (revert hb; lia))
 have e1:(a*d)*f=(a*f)*d:=by rw [Int.mul_assoc,Int.mul_assoc,Int.mul_comm d f]
 have e2:(c*b)*f=(c*f)*b:=by rw [Int.mul_assoc,Int.mul_assoc,Int.mul_comm b f]
 have e3:(e*d)*b=(e*b)*d:=by rw [Int.mul_assoc,Int.mul_assoc,Int.mul_comm d b]
 rw [e1,e2] at h3
 rw [e3] at h4
 exact Int.le_of_mul_le_mul_right (Int.le_trans h3 h4) hd
theorem best_spec {ls:List (List Mt)} {lt bb lf:Int} (l0:1≤lt) (b0:1≤bb) (f0:1≤lf) (k:Nat):∃ i,i≤k∧best ls lt bb lf k=((full ls lt bb lf i).1,(full ls lt bb lf i).2,(i:Int))∧fP (full ls lt bb lf) (k+1) i∧∀ j,j < i→(full ls lt bb lf j).1*(full ls lt bb lf i).2 < (full ls lt bb lf i).1*(full ls lt bb lf j).2:=by
 induction k with
 | zero=>exact ⟨0,Nat.le_refl _,rfl,fun j hj=>by (obtain rfl:j=0:=(by (revert hj; lia))); lia,fun j hj=>absurd hj (Nat.not_lt_zero j)⟩
 | succ k ih =>
  obtain ⟨i,hi,e,hP,hF⟩:=ih
  have hs:best ls lt bb lf (k+1)=if (best ls lt bb lf k).1*(bb*lf ^ k) < octs ls (k+1)*(best ls lt bb lf k).2.1 then (octs ls (k+1),bb*lf ^ k,(k:Int)+1) else best ls lt bb lf k:=rfl
  have hk1:full ls lt bb lf (k+1)=(octs ls (k+1),bb*lf ^ k):=by simp [full]
  have pos:=full_pos (ls:=ls) l0 b0 f0
  rw [e] at hs
  simp only at hs
  by_cases hc:(full ls lt bb lf i).1*(bb*lf ^ k) < octs ls (k+1)*(full ls lt bb lf i).2
  ·rw [if_pos hc] at hs
   refine ⟨k+1,Nat.le_refl _,by rw [hs,hk1]; simp,fun j hj=>?_,fun j hj=>?_⟩
   ·rcases Nat.lt_succ_iff_lt_or_eq.mp hj with hj | rfl
    ·have:=hP j hj
     have h2:=frac_trans (pos j) (pos i) (pos (k+1)) (Int.not_lt.mp this) (show (full ls lt bb lf i).1*(full ls lt bb lf (k+1)).2≤(full ls lt bb lf (k+1)).1*(full ls lt bb lf i).2 by rw [hk1]; simp only; (revert hc; lia))
     (revert h2; lia)
    ·lia
   ·have h1:=hP j (by (revert hj; lia))
    have hc':(full ls lt bb lf i).1*(full ls lt bb lf (k+1)).2 < (full ls lt bb lf (k+1)).1*(full ls lt bb lf i).2:=by rw [hk1]; exact hc
    have h2:=frac_trans (pos j) (pos i) (pos (k+1)) (Int.not_lt.mp h1) (Int.le_of_lt hc')
    rcases Int.lt_or_eq_of_le h2 with h2 | h2
    ·exact h2
    ·exfalso
     have:=frac_trans (pos (k+1)) (pos j) (pos i) (Int.le_of_eq h2.symm) (Int.not_lt.mp h1)
     (revert hc' this; lia)
  ·rw [if_neg hc] at hs
   refine ⟨i,by (revert hi; lia),by rw [hs],fun j hj=>?_,hF⟩
   rcases Nat.lt_succ_iff_lt_or_eq.mp hj with hj | rfl
   ·exact hP j hj
   ·rw [hk1]; simp only; exact hc
noncomputable def scoreD (b:Int×Int×Int):D:=.tup [.tup [.int b.1,.int b.2.1],.int b.2.2]
theorem pow_le3 {lf:Int} (f0:1≤lf) (f1:lf≤3) {j:Nat} (hj:j≤10):0≤lf ^ j∧lf ^ j≤59049:=pow_b (Int.le_trans (Int.le_of_lt Int.zero_lt_one) f0) f1 hj
section
variable {c:Ctx} {n:Nat} {σ W:Sto} {Q:KV} {R:Sto→Prop} {H:List (Addr×O)}
theorem ok_law_score (x:Cx c) (A:At σ W H) {lv:V} {ls:List (List Mt)} {o hv:Addr} {nl lt bb lf:Int} (hl:Rep W (levD ls) lv) (hO:(o,O.inst 305 (optF hv nl lt bb lf))∈H) (h2:2≤ls.length) (h10:ls.length≤10) (hz:∀ fs∈ls,fs.length≤64)
  (l0:1≤lt) (l1:lt≤100) (b0:1≤bb) (b1:bb≤100) (f0:1≤lf) (f1:lf≤3) (hoc:∀ k,(octs ls k).natAbs < 1000000)
  (q:∀ σ' W' v,W.le W'→At σ' W' H→Rep W' (scoreD (best ls lt bb lf (ls.length-2))) v→Q v σ'):Call c (n+4) (.ref 588) [lv,.ref o] σ Q R:=by
 refine Call.enterC (fn__law_score x) rfl fun Φ f=>?_
 have hvars:∀ L,varsC args__law_score rest__law_score cels__law_score (scopeOf 588) L=[(Str.ofString "levels",none),(Str.ofString "options",none),(Str.ofString "level",none),(Str.ofString "most",none),(Str.ofString "fulls",some (L+1)),(Str.ofString "i",some (L+1+1))]:=fun L=>rfl
 obtain ⟨L,he,r⟩:=f.run x rfl fun L=>⟨(Str.ofString "fulls",some (L+1)),by rw [hvars]; simp,by simp⟩
 rw [hvars] at r
 simp only [args__law_score,rest__law_score,cels__law_score,List.map_cons,List.map_nil,List.cons_append,List.nil_append] at r ⊢
 obtain ⟨la,lvs,rfl,hla,hlr⟩:=hl
 have hlvl:lvs.length=ls.length:=by rw [hlr.length,List.length_map]
 have lev:∀ k,k < ls.length→∃ a vs,lvs[k]?=some (V.ref a)∧W a=some (.list vs)∧Reps W ((ls.getD k []).map mtD) vs:=fun k hk=>by
  obtain ⟨v,ev,rv⟩:=hlr.at (i:=k) (x:=.lst ((ls.getD k []).map mtD)) (by rw [List.getElem?_map,List.getD_eq_getElem?_getD,List.getElem?_eq_getElem hk]; rfl)
  obtain ⟨a,vs,rfl,h1,h2⟩:=rv
  exact ⟨a,vs,ev,h1,h2⟩
 have lz:∀ k,k < ls.length→(ls.getD k []).length≤64:=fun k hk=>hz _ (by rw [List.getD_eq_getElem?_getD,List.getElem?_eq_getElem hk]; exact List.getElem_mem _)
 have opt:∀ {M:Loc} {np p:Pos} {y:Str} {u:V} {Q':KV} {R':KL} {os:List (Option V)} {W' σ':Sto} {X:List (Addr×O)},At σ' W' (X++H)→FldOk Φ.toCtx 305 y→FGet (optF hv nl lt bb lf) y u→(∀ w,u≠.oth w)→Q' u σ'→SE Φ (.Attribute (.Name (Str.ofString "options") np) y p) (some (.ref la)::some (.ref o)::os) σ' Q' R':=by
  intro M np p y u Q' R' os W' σ' X A' h1 h2 h3 h4
  refine E_at ?_
  walk_at "go"
  exact ⟨_,_,_,u,rfl,A'.get (List.mem_append_right _ hO),h1,h2,h3,h4⟩
 walk_at "s"
 walk_at "s"
 refine SE_list ?_
 walk_at "go"
 refine SE_tuple (by simp) ?_
 walk_at "go"
 refine E_sub ?_
 walk_at "go"
 obtain ⟨a0,vs0,ea0,ha0,hr0⟩:=lev 0 (by (revert h2 h10 hlvl; lia))
 refine ⟨.ref a0,.list (A.fz hla) (by lia) (by lia) ea0,?_⟩
 walk_at "go"
 have hv0:vs0.length=(ls.getD 0 []).length:=by rw [hr0.length,List.length_map]
 refine b_len_list (A.fz ha0) (by have:=lz 0 (by (revert h2 h10 hlvl; lia)); (revert hv0 this; lia)) ?_
 rw [hv0]
 walk_at "go"
 refine opt (M:=[]) (X:=[]) A (u:=.int lt) (r.cx.fld rfl) (lkp_get rfl) (noth rfl) ?_
 walk_at "go"
 refine ⟨by simp,fun t1 ht1=>?_⟩
 have A1:=A.newF (o:=.tuple [.int ((ls.getD 0 []).length:Int),.int lt]) ht1
 have L1:=A.newle (o:=.tuple [.int ((ls.getD 0 []).length:Int),.int lt]) ht1
 walk_at "go"
 refine ⟨by simp,fun D hD=>?_⟩
 have A2:=A1.new (o:=.list [.ref t1]) hD
 have hrep0:Reps (W.set t1 (.tuple [.int ((ls.getD 0 []).length:Int),.int lt])) ((List.range 1).map fun k=>endD (full ls lt bb lf k)) [.ref t1]:=by
  refine ⟨_,_,rfl,rep_end.mpr ⟨t1,rfl,?_⟩,rfl⟩
  rw [Sto.set_same]; simp [full]
 refine (let M1:Loc:=_; st_ (M':=M1) rfl ?_)
 generalize ((σ.set t1 (.tuple [.int ((ls.getD 0 []).length:Int),.int lt])).set D (.list [.ref t1]))=σ₂ at A2
 generalize W.set t1 (.tuple [.int ((ls.getD 0 []).length:Int),.int lt])=W₁ at A2 A1 L1 hrep0
 walk_at "s"
 refine X_forr2 ?_
 walk_at "go"
 refine b_len_list (A2.fz (L1 _ _ hla)) (by (revert h2 h10 hlvl; lia)) ?_
 rw [hlvl]
 walk_at "go"
 refine bop_int ⟨1,_,rfl,rfl,by lia,by lia,by (revert h2 h10 hlvl; lia),by (revert h2 h10 hlvl; lia),?_⟩ (by simp)
 suffices main:∀ (k j:Nat) (acc:List V) (W₂ σ₃:Sto) (o2 o3 o5:Option V),ls.length-1-j=k→1≤j→j≤ls.length-1→W₁.le W₂→Reps W₂ ((List.range j).map fun k=>endD (full ls lt bb lf k)) acc→At σ₃ W₂ ((D,.list acc)::H) →
   ForG Φ _ _ (fun _=>True) _ _ (rng j ((ls.length:Int)-1)) [some (.ref la),some (.ref o),o2,o3,some (.ref D),o5] σ₃ from
  main _ 1 [.ref t1] W₁ σ₂ none none none rfl (by lia) (by (revert h2 h10 hlvl; lia)) (Sto.le_refl _) hrep0 A2
 clear A2 A1 hrep0 hD ht1
 intro k
 induction k with
 | succ k ih =>
  intro j acc W₂ σ₃ o2 o3 o5 hk hj1 hj2 hW hacc A3
  rw [rng_cons (by (revert h2 h10 hlvl hk hj2; lia))]
  refine ⟨trivial,?_⟩
  refine (let M1:Loc:=_; let F1:KF:=_; SG_n (M':=M1) (K:=kSb _ _ F1 _) r.toRun rfl ?_)
  obtain ⟨a1,vs1,ea1,ha1,hr1⟩:=lev j (by (revert h2 h10 hlvl hj2; lia))
  have hLW:W.le W₂:=L1.trans' hW
  walk_at "s"
  walk_at "s"
  walk_at "s"
  refine opt (M:=[]) (X:=[_]) A3 (u:=.int bb) (r.cx.fld rfl) (lkp_get rfl) (noth rfl) ?_
  walk_at "s"
  refine opt (M:=[]) (X:=[_]) A3 (u:=.int lf) (r.cx.fld rfl) (lkp_get rfl) (noth rfl) ?_
  walk_at "go"
  refine bo_ ?_
  refine bop_pow (by (revert hj1; lia)) (by (revert h2 h10 hlvl hj2; lia)) (by (revert f0 f1; lia)) ?_
  rw [show ((j:Int)-1).toNat=j-1 by lia]
  refine mul_ (mulOk (by (revert b0 b1; lia))) ?_
  refine (let M1:Loc:=_; st_ (M':=M1) rfl ?_)
  walk_at "s"
  refine X_ex ?_
  refine E_app ?_
  walk_at "go"
  refine ⟨D,acc,rfl,A3.get (.head _),?_⟩
  walk_at "go"
  refine SE_tuple (by simp) ?_
  walk_at "go"
  refine SE_comp_list (n:=n+2) (b:=false) (xs:=[Str.ofString "meta"]) (cl:=[]) r.ok (by exact .plain) rfl (by intros; rfl) ?_
  refine E_sub ?_
  walk_at "go"
  refine ⟨.ref a1,.list (A3.fz (hLW _ _ hla)) (by (revert hj1; lia)) (by (revert h2 h10 hlvl hj2; lia)) (by simpa using ea1),?_⟩
  refine ⟨a1,vs1,rfl,A3.fz (hLW _ _ ha1),fun Φ' i=>?_⟩
  have r':=i.run r.toRun
  simp only [List.map_cons,List.map_nil] at r'
  have hcap:∀ {M:Loc},capM Φ false M=[]:=rfl
  rw [hcap]
  have hlz:=lz j (by (revert h2 h10 hlvl hj2; lia))
  suffices inner:∀ (rest:List V) (done todo:List Mt),ls.getD j []=done++todo→Reps W (todo.map mtD) rest→CG Φ' _ _ [] (fun σ=>σ a1=some (.list vs1)) [] 1 _ rest ((done.map (·.s)).map V.int) σ₃ from
   inner vs1 [] (ls.getD j []) rfl hr1
  intro rest
  induction rest with
  | cons v rest ih2 =>
   intro done todo g1 g2
   obtain ⟨p,ra,rfl,hpp,g2c⟩:=list_more g2
   obtain ⟨fa,lo,hi,rfl,hfa,_,_⟩:=rep_mt.mp hpp
   refine ⟨A3.fz (hLW _ _ ha1),?_,fun tv htv=>?_⟩
   ·have:=congrArg List.length g1
    simp only [List.length_append,List.length_cons,List.length_map] at this ⊢
    (revert hlz this; lia)
   obtain ⟨t0,rfl⟩:=len1 htv
   refine SG_name' r' (stK_ok (M:=[t0]) rfl) ?_
   refine ⟨[some (.ref fa)],rfl,rfl,CT_nil ?_⟩
   refine E_sub ?_
   walk_at "go"
   refine ⟨.int p.s,.tuple (A3.fz (hLW _ _ hfa)) (by lia) (by lia) rfl,?_⟩
   have:=ih2 (done++[p]) ra (by rw [g1]; simp) g2c
   simpa using this
  | nil =>
  intro done todo g1 g2
  obtain rfl:=list_end g2
  rw [List.append_nil] at g1
  subst g1
  refine ⟨A3.fz (hLW _ _ ha1),fun d2 hd2=>?_⟩
  walk_at "go"
  have A4:=A3.newF (o:=.list (((ls.getD j []).map (·.s)).map V.int)) hd2
  have L4:=A3.newle (o:=.list (((ls.getD j []).map (·.s)).map V.int)) hd2
  refine b_sum (r.ok.hand (Nat.succ_ne_zero _)) Sto.set_same ?_
  show SA _ _ _ _ _ _ _
  walk_at "go"
  refine ⟨by simp,fun t2 ht2=>?_⟩
  have A5:=A4.newF (o:=.tuple [.int (octs ls j),.int (bb*lf ^ (j-1))]) ht2
  have L5:=A4.newle (o:=.tuple [.int (octs ls j),.int (bb*lf ^ (j-1))]) ht2
  walk_at "go"
  have hal:acc.length=j:=by rw [hacc.length]; simp
  refine l_append (A5.get (.head _)) (by (revert h2 h10 hlvl hj2 hal; lia)) ?_
  have A6:=A5.upd (o':=.list (acc++[.ref t2]))
  walk_at "go"
  have:=ih (j+1) (acc++[.ref t2]) _ _ (some (.int j)) (some (.int (bb*lf ^ (j-1)))) o5 (by (revert h2 h10 hlvl hk hj2 hal; lia)) (by (revert hj1 hal; lia)) (by (revert h2 h10 hlvl hk hj2 hal; lia)) (hW.trans' (L4.trans' L5)) (by
   rw [List.range_succ,List.map_append]
   refine (hacc.mono (L4.trans' L5)).snoc (rep_end.mpr ⟨t2,rfl,?_⟩)
   rw [Sto.set_same]
   unfold full
   rw [if_neg (by (revert hj1 hal; lia))]) A6
  rw [Int.natCast_succ] at this
  exact this
 | zero =>
 intro j acc W₂ σ₃ o2 o3 o5 hk hj1 hj2 hW hacc A3
 have hjj:j=ls.length-1:=by (revert h2 h10 hlvl hk hj2; lia)
 subst hjj
 rw [rng_nil (by (revert h2 h10 hlvl; lia))]
 refine ⟨trivial,?_⟩
 have A4:=A3.freeze
 have L4:=A3.fle
 have hDW:(W₂.set D (.list acc)) D=some (.list acc):=Sto.set_same
 have hacc:=hacc.mono L4
 generalize W₂.set D (.list acc)=W₃ at A4 L4 hDW hacc
 clear A3
 have hal:acc.length=ls.length-1:=by rw [hacc.length]; simp
 obtain ⟨bi,hbi,hbest,hP,hF⟩:=best_spec (ls:=ls) l0 b0 f0 (ls.length-2)
 rw [hbest] at q
 have hK:ls.length-2+1=ls.length-1:=by (revert h2 h10 hlvl hal; lia)
 rw [hK] at hP
 walk_at "s"
 refine X_forr ?_
 walk_at "go"
 refine b_len_list (A4.fz hDW) (by (revert h2 h10 hlvl hal hK; lia)) ?_
 rw [hal]
 refine ⟨_,rfl,by (revert hal hK; lia),by (revert h2 h10 hlvl hal hK; lia),?_⟩
 have fat:∀ k,k < ls.length-1→∃ t,acc[k]?=some (V.ref t)∧W₃ t=some (.tuple [.int (full ls lt bb lf k).1,.int (full ls lt bb lf k).2]):=fun k hk=>by
  obtain ⟨v,ev,rv⟩:=hacc.at (i:=k) (x:=endD (full ls lt bb lf k)) (by rw [List.getElem?_map,List.getElem?_range hk]; rfl)
  obtain ⟨t,rfl,ht⟩:=rep_end.mp rv
  exact ⟨t,ev,ht⟩
 have fsz:∀ k,(full ls lt bb lf k).1.natAbs < 1000000:=fun k=>by
  unfold full
  split
  ·have:=lz 0 (by (revert h2 h10 hlvl; lia)); simp only; (revert hv0 this; lia)
  ·exact hoc k
 suffices main2:∀ (k j:Nat) (W₄ σ₄:Sto) (o2 o3 o5:Option V),ls.length-1-j=k→j≤bi→W₃.le W₄→At σ₄ W₄ H →
   ForG Φ _ _ (fun _=>True) _ _ (rng j ((ls.length-1:Nat):Int)) [some (.ref la),some (.ref o),o2,o3,some (.ref D),o5] σ₄ from
  main2 _ 0 W₃ σ₃ o2 o3 o5 rfl (by lia) (Sto.le_refl _) A4
 clear A4 o2 o3 o5
 intro k
 induction k with
 | zero=>intro j W₄ σ₄ o2 o3 o5 hk hjb; exact absurd hk (by (revert h2 hbi hjb; lia))
 | succ k ih =>
  intro j W₄ σ₄ o2 o3 o5 hk hjb hW4 A4
  rw [rng_cons (by (revert hal hbi hK hjb; lia))]
  refine ⟨trivial,?_⟩
  refine (let M1:Loc:=_; let F1:KF:=_; SG_n (M':=M1) (K:=kSb _ _ F1 _) r.toRun rfl ?_)
  obtain ⟨tj,etj,htj⟩:=fat j (by (revert hal hbi hK hjb; lia))
  have hWle:W₃.le σ₄:=hW4.trans' A4.le
  walk_at "s"
  walk_at "s"
  walk_at "s"
  walk_at "s"
  walk_at "s"
  refine SE_comp_list (n:=n+2) (b:=true) (xs:=[Str.ofString "full"]) (cl:=[(Str.ofString "i",L+1+1),(Str.ofString "fulls",L+1)]) r.ok ?_ rfl (by intros; rfl) ?_
  ·have hnames:∀ sc:Scope,sc.names=[(Str.ofString ".0",.local),(Str.ofString "full",.local),(Str.ofString "fulls",.free),(Str.ofString "i",.free)]→(relabel sc Φ.env).names=[(Str.ofString ".0",.local),(Str.ofString "full",.local),(Str.ofString "fulls",.cell),(Str.ofString "i",.cell)]:=by
    intro sc hsc
    unfold relabel
    rw [hsc,he]
    rfl
   refine ⟨by rw [he]; rfl,rfl,by decide +kernel,by decide +kernel,by decide +kernel,fun y hy=>?_,fun _ v hv=>?_,?_,by decide +kernel⟩
   ·rw [hnames _ rfl]
    rw [List.mem_singleton] at hy; subst hy; simp
   ·rw [hnames _ rfl]
    rw [r.vars] at hv
    simp [cellVars] at hv
    rcases hv with rfl | rfl
    ·exact ⟨by simp,fun c hc=>by cases hc; rfl⟩
    ·exact ⟨by simp,fun c hc=>by cases hc; rfl⟩
   ·unfold compVars
    rw [r.vars]
    show ([Str.ofString "full",Str.ofString "fulls",Str.ofString "i"]:List Str).Nodup
    decide +kernel
  walk_at "s"
  refine ⟨D,acc,rfl,hWle _ _ hDW,fun Φ' i=>?_⟩
  have r':=i.runC r.toRun
  simp only [cellVars,List.map_cons,List.map_nil,List.filter_cons,List.filter_nil,Option.isSome_none,Option.isSome_some,Bool.false_eq_true,if_false,if_true,List.cons_append,List.nil_append] at r'
  have hcap:capM Φ true [some (V.ref la),some (V.ref o),o2,o3,some (V.ref D),some (V.int j)]=[some (V.ref D),some (V.int j)]:=by
   unfold capM
   rw [r.vars]
   rfl
  rw [hcap]
  suffices comp:∀ (k2 j2:Nat) (acc2:List V),ls.length-1-j2=k2→j2≤ls.length-1→acc2.length≤j2→(acc2=[]↔fP (full ls lt bb lf) j2 j)→CG Φ' _ _ _ (fun σ=>σ D=some (.list acc)) [some (V.ref D),some (V.int j)] 1 _ (acc.drop j2) acc2 σ₄ from
   comp _ 0 [] rfl (by (revert hal hK; lia)) (by simp) (by simp [fP])
  intro k2
  induction k2 with
  | zero =>
   intro j2 acc2 hk2 hj2 hl2 hP2
   have:j2=ls.length-1:=by (revert h2 h10 hlvl hal hK hk hk2 hj2; lia)
   subst this
   rw [List.drop_eq_nil_of_le (by (revert hal; lia))]
   refine ⟨hWle _ _ hDW,fun D2 hD2=>?_⟩
   have A5:=A4.newF (o:=.list acc2) hD2
   have L5:=A4.newle (o:=.list acc2) hD2
   walk_at "go"
   refine b_len_list Sto.set_same (by (revert h2 h10 hlvl hal hK hk hl2; lia)) ?_
   walk_at "go"
   refine ct_ ?_
   by_cases hn:acc2=[]
   ·refine ite_pos (by simp [hn]) ?_
    have hPj:=hP2.mp hn
    have hjb':j=bi:=by
     by_cases h:j < bi
     ·have:=hF j h
      exact absurd this (by have:=hPj bi (by (revert hal hbi hK; lia)); (revert this; lia))
     ·(revert hjb h; lia)
    subst hjb'
    walk_at "s"
    walk_at "s"
    refine SE_tuple (by simp) ?_
    walk_at "go"
    refine E_sub ?_
    walk_at "go"
    refine ⟨.ref tj,.list ((hW4.trans' (L5.trans' A5.le)) _ _ hDW) (by lia) (by (revert h2 h10 hlvl hk; lia)) (by simpa using etj),?_⟩
    walk_at "go"
    refine ⟨by simp,fun t3 ht3=>?_⟩
    have A6:=A5.newF (o:=.tuple [.ref tj,.int j]) ht3
    have L6:=A5.newle (o:=.tuple [.ref tj,.int j]) ht3
    refine q _ _ _ (L1.trans' (hW.trans' (L4.trans' (hW4.trans' (L5.trans' L6))))) A6 ?_
    exact ⟨t3,_,rfl,Sto.set_same,_,_,rfl,⟨tj,_,rfl,(hW4.trans' (L5.trans' L6)) _ _ htj,_,_,rfl,rfl,_,_,rfl,rfl,rfl⟩,_,_,rfl,rfl,rfl⟩
   ·refine ite_neg (by simpa using hn) ?_
    walk_at "s"
    walk_at "s"
    have hjb2:j < bi:=by
     by_cases h:j < bi
     ·exact h
     ·have:j=bi:=by (revert hjb h; lia)
      subst this
      exact absurd (hP2.mpr hP) hn
    have:=ih (j+1) _ _ o2 o3 (some (.int j)) (by (revert hlvl hk; lia)) (by (revert hjb2; lia)) (hW4.trans' L5) A5
    rw [Int.natCast_succ] at this
    exact this
  | succ k2 ih2 =>
   intro j2 acc2 hk2 hj2 hl2 hP2
   obtain ⟨t2,et2,ht2⟩:=fat j2 (by (revert h2 h10 hlvl hal hK hk hk2 hj2; lia))
   have hdrop:acc.drop j2=V.ref t2::acc.drop (j2+1):=by
    have hl:=(List.getElem?_eq_some_iff.mp et2).1
    rw [List.drop_eq_getElem_cons hl,(List.getElem?_eq_some_iff.mp et2).2]
   rw [hdrop]
   refine ⟨hWle _ _ hDW,by (revert h2 h10 hlvl hk2 hl2; lia),fun tv htv=>?_⟩
   obtain ⟨t0,rfl⟩:=len1 htv
   refine SG_name' r' (stK_ok (M:=[t0,some (V.ref D),some (V.int j)]) rfl) ?_
   refine ⟨[some (.ref t2)],rfl,rfl,CT_one ?_⟩
   refine ST.mono (Q:=fun b σ'=>b=decide ((full ls lt bb lf j).1*(full ls lt bb lf j2).2 < (full ls lt bb lf j2).1*(full ls lt bb lf j).2)∧σ'=σ₄) ?_ (fun b σ' ⟨hb,hσ⟩=>?_)
   rotate_left
   ·subst hσ
    cases b with
    | true =>
     try refine ite_pos (by rfl) ?_
     walk_at "s"
     refine ih2 (j2+1) _ (by (revert hlvl hk2; lia)) (by (revert h2 h10 hlvl hal hK hk hk2 hj2; lia)) (by simp; (revert hl2; lia)) ?_
     have hlt:(full ls lt bb lf j).1*(full ls lt bb lf j2).2 < (full ls lt bb lf j2).1*(full ls lt bb lf j).2:=by simpa using hb
     constructor
     ·intro h; simp at h
     ·intro h; exact absurd hlt (h j2 (by (revert h2 h10 hlvl hal hK hk hk2 hj2; lia)))
    | false =>
     refine if_F ?_
     refine ih2 (j2+1) _ (by (revert hlvl hk2; lia)) (by (revert h2 h10 hlvl hal hK hk hk2 hj2; lia)) (by (revert hl2; lia)) ?_
     have hlt:¬ (full ls lt bb lf j).1*(full ls lt bb lf j2).2 < (full ls lt bb lf j2).1*(full ls lt bb lf j).2:=by simpa using hb
     rw [hP2]
     constructor
     ·intro h z hz
      rcases Nat.lt_succ_iff_lt_or_eq.mp hz with hz | rfl
      ·exact h z hz
      ·exact hlt
     ·intro h z hz; exact h z (by (revert hz; lia))
   walk_at "s"
   walk_at "s"
   refine E_sub ?_
   walk_at "go"
   refine ⟨_,.tuple (hWle _ _ ht2) (by lia) (by lia) rfl,?_⟩
   refine E_sub ?_
   refine E_sub ?_
   walk_at "go"
   refine ⟨.ref tj,.list (hWle _ _ hDW) (by lia) (by (revert h2 h10 hlvl hk hk2; lia)) (by simpa using etj),?_⟩
   walk_at "go"
   refine ⟨_,.tuple (hWle _ _ htj) (by lia) (by lia) rfl,?_⟩
   refine mul_ (mulOk (Nat.lt_trans (fsz _) (by decide))) ?_
   walk_at "s"
   refine E_sub ?_
   refine E_sub ?_
   walk_at "go"
   refine ⟨.ref tj,.list (hWle _ _ hDW) (by lia) (by (revert h2 h10 hlvl hk hk2; lia)) (by simpa using etj),?_⟩
   walk_at "go"
   refine ⟨_,.tuple (hWle _ _ htj) (by lia) (by lia) rfl,?_⟩
   refine E_sub ?_
   walk_at "go"
   refine ⟨_,.tuple (hWle _ _ ht2) (by lia) (by lia) rfl,?_⟩
   refine mul_ (mulOk (Nat.lt_trans (fsz _) (by decide))) ?_
   refine ct_ ?_
   exact ⟨rfl,rfl⟩
end
theorem sum_bound (l:List Mt) (h:∀ y∈l,MtOk y):0≤(l.map (·.s)).sum∧(l.map (·.s)).sum≤1000*l.length:=by
 induction l with
 | nil=>exact ⟨Int.le_refl 0,Int.le_refl 0⟩
 | cons y l ih =>
  have ih:=ih fun z hz=>h z (.tail _ hz)
  have h0:=(h y (.head _)).s0
  have h1:=(h y (.head _)).s1
  simp only [List.map_cons,List.sum_cons,List.length_cons]
  (revert ih h0 h1; lia)
structure LsOk (ls:List (List Mt)):Prop where
 ok:∀ fs∈ls,∀ y∈fs,MtOk y
 len:∀ fs∈ls,fs.length≤64
 n2:2≤ls.length
 n10:ls.length≤10
structure OpOk (lt bb lf:Int):Prop where
 l0:1≤lt
 l1:lt≤100
 b0:1≤bb
 b1:bb≤100
 f0:1≤lf
 f1:lf≤3
theorem LsOk.get {ls:List (List Mt)} (h:LsOk ls) (k:Nat):(ls.getD k []).length≤64∧∀ y∈ls.getD k [],MtOk y:=by
 rw [List.getD_eq_getElem?_getD]
 cases e:ls[k]? with
 | none=>simp
 | some fs=>exact ⟨h.len fs (List.mem_of_getElem? e),h.ok fs (List.mem_of_getElem? e)⟩
theorem LsOk.octs {ls:List (List Mt)} (h:LsOk ls) (k:Nat):0≤octs ls k∧octs ls k≤64000:=by
 have h1:=sum_bound (ls.getD k []) (h.get k).2
 have h2:=(h.get k).1
 unfold Mine.Internal.octs
 (revert h1 h2; lia)
theorem LsOk.best {ls:List (List Mt)} {lt bb lf:Int} (h:LsOk ls) (o:OpOk lt bb lf) (k:Nat):(0≤(best ls lt bb lf k).1∧(best ls lt bb lf k).1≤64000)∧(0≤(best ls lt bb lf k).2.1∧(best ls lt bb lf k).2.1≤5904900):=by
 induction k with
 | zero =>
  have h1:=(h.get 0).1
  have h2:=o.l0
  have h3:=o.l1
  show (0≤((ls.getD 0 []).length:Int)∧((ls.getD 0 []).length:Int)≤64000)∧(0≤lt∧lt≤5904900)
  (revert h1 h2 h3; lia)
 | succ k ih =>
  have ho:=h.octs (k+1)
  have hs:Mine.Internal.best ls lt bb lf (k+1)=if (Mine.Internal.best ls lt bb lf k).1*(bb*lf ^ k) < Mine.Internal.octs ls (k+1)*(Mine.Internal.best ls lt bb lf k).2.1 then (Mine.Internal.octs ls (k+1),bb*lf ^ k,(k:Int)+1) else Mine.Internal.best ls lt bb lf k:=rfl
  rw [hs]
  by_cases hc:(Mine.Internal.best ls lt bb lf k).1*(bb*lf ^ k) < Mine.Internal.octs ls (k+1)*(Mine.Internal.best ls lt bb lf k).2.1
  ·rw [if_pos hc]
   simp only
   have hk:k≤10:=by
    have:=h.n10
    by_cases hk:k+1 < ls.length
    ·(revert this hk; lia)
    ·exfalso
     have e0:Mine.Internal.octs ls (k+1)=0:=by
      unfold Mine.Internal.octs
      rw [List.getD_eq_getElem?_getD,List.getElem?_eq_none (by (revert hk; lia))]; rfl
     rw [e0,Int.zero_mul] at hc
     have hp:=pow_pos' o.f0 k
     have:0≤bb*lf ^ k:=Int.mul_nonneg (by have:=o.b0; (revert this; lia)) (by (revert hp; lia))
     have:=Int.mul_nonneg ih.1.1 this
     (revert hc this; lia)
   obtain ⟨a1,a2⟩:=pow_le3 o.f0 o.f1 hk
   have h5:bb*lf ^ k≤100*59049:=Int.le_trans (Int.mul_le_mul_of_nonneg_right o.b1 a1) (Int.mul_le_mul_of_nonneg_left a2 (by lia))
   have h6:0≤bb*lf ^ k:=Int.mul_nonneg (by have:=o.b0; (revert this; lia)) a1
   (revert ho h5 h6; lia)
  ·rw [if_neg hc]; exact ih
section
variable {c:Ctx} {n:Nat} {σ W:Sto} {Q:KV} {R:Sto→Prop} {H:List (Addr×O)}
theorem ok_law_scored (x:Cx c) {v fl io sc o hv:Addr} {nl:Nat} {sl lt bb lf:Int} {ps:List (Addr×List V)} {fss:List (List Mt)} {lv:V} (A:At σ W (verH v fl nl io sc sl ps++H)) (hO:(o,O.inst 305 (optF hv nl lt bb lf))∈H) (hV:VLs W ps fss) (hl:Rep W (levD fss) lv) (hn:fss.length=nl)
  (hls:LsOk fss) (hop:OpOk lt bb lf) (q:∀ σ' W' t,W.le W'→W' t=some (.tuple [.int (best fss lt bb lf (nl-2)).1,.int (best fss lt bb lf (nl-2)).2.1])→At σ' W' (verH v fl nl io t (best fss lt bb lf (nl-2)).2.2 ps++H)→Q (.bool true) σ') :
  Call c (n+6) (.ref 595) [.ref v,lv,.ref o] σ Q R:=by
 refine Call.go x (fn__law_scored x) fun Φ r=>?_
 walk_at "go"
 refine ok_score_of r.cx (A:=by unfold verH at A; exact A) (las:=ps.map (·.1)) (fss:=fss) (nl:=nl) (.tail _ (List.mem_append_right _ hO)) (by rw [← rB_lB]; exact .head _) (fun σ' A'=>hV.levs A'.le (fun p hp=>A'.get (.tail _ (List.mem_append_left _ (List.mem_map.mpr ⟨p,hp,rfl⟩)))) fun fs hfs=>by have:=hls.len fs hfs; (revert this; lia)) (by have:=hls.n2; (revert hn this; lia)) hn (by have:=hls.n10; (revert hn this; lia))
  (by have:=hop.b0; (revert this; lia)) hop.b1 (by have:=hop.f0; (revert this; lia)) hop.f1 (fun k=>by have:=hls.best hop k; (revert this; lia)) (fun k=>by have:=hls.octs k; (revert this; lia)) fun σ₁ W₁ t L1 ht A1=>?_
 refine (let M1:Loc:=_; st_ (M':=M1) rfl ?_)
 walk_at "s"
 walk_at "s"
 walk_at "s"
 refine SBo_and ?_
 walk_at "s"
 refine SE_tuple (by simp) ?_
 walk_at "go"
 refine E_at ?_
 walk_at "go"
 refine at_ r.cx (A1.get (.head _)) rfl ?_
 walk_at "go"
 refine ⟨by simp,fun t1 ht1=>?_⟩
 have A2:=A1.newF (o:=.tuple [.ref t,.int (best fss lt bb lf (nl-2)).2.2]) ht1
 have L2:=A1.newle (o:=.tuple [.ref t,.int (best fss lt bb lf (nl-2)).2.2]) ht1
 have hrep:Rep (W₁.set t1 (.tuple [.ref t,.int (best fss lt bb lf (nl-2)).2.2])) (scoreD (best fss lt bb lf (nl-2))) (.ref t1):=by
  exact ⟨t1,_,rfl,Sto.set_same,_,_,rfl,⟨t,_,rfl,L2 _ _ ht,_,_,rfl,rfl,_,_,rfl,rfl,rfl⟩,_,_,rfl,rfl,rfl⟩
 walk_at "go"
 refine ok_law_score (n:=n+1) r.cx A2 (ls:=fss) (hv:=hv) (nl:=nl) (lt:=lt) (bb:=bb) (lf:=lf) (hl.mono (L1.trans' L2)) (.tail _ (.tail _ (List.mem_append_right _ hO))) hls.n2 hls.n10 hls.len hop.l0 hop.l1 hop.b0 hop.b1 hop.f0 hop.f1 (fun k=>by have:=hls.octs k; (revert this; lia)) fun σ₂ W₂ v2 L3 A3 hr2=>?_
 rw [hn] at hr2
 refine cop_eq_rep (bb:=true) r.ok 2 (by lia) (by simp [scoreD]) (hrep.mono (L3.trans' A3.le)) (hr2.mono A3.le) (by simp) ?_
 refine ⟨true,rfl,?_⟩
 try refine ite_pos (by rfl) ?_
 refine SBo_one ?_
 walk_at "s"
 refine E_at ?_
 walk_at "go"
 refine at_ r.cx (A3.get (.head _)) rfl ?_
 walk_at "go"
 have ht2:Rep σ₂ (.tup [.int (best fss lt bb lf (nl-2)).1,.int (best fss lt bb lf (nl-2)).2.1]) (.ref t):=by
  exact ⟨t,_,rfl,(L2.trans' (L3.trans' A3.le)) _ _ ht,_,_,rfl,rfl,_,_,rfl,rfl,rfl⟩
 refine cop_eq_rep (bb:=true) r.ok 1 (by lia) (by simp ) ht2 ht2 (by simp) ?_
 exact q _ _ t (L1.trans' (L2.trans' L3)) ((L2.trans' L3) _ _ ht) A3
end
theorem cmp_asymm {p q:Int×Int}:cmpE q p=- cmpE p q:=by
 unfold cmpE
 repeat' split
 all_goals first | rfl | (rename_i h1 h2; exact absurd h1 (by (revert h2; lia))) | (rename_i h1 h2 _; exact absurd h1 (by (revert h2; lia))) | (rename_i h1 _ h2; exact absurd h1 (by (revert h2; lia)))
theorem befB_asymm {l:Int} {a b:Mt} (h:befB l a b=true):befB l b a=false:=by
 unfold befB at *
 rw [cmp_asymm (p:=a.lo) (q:=b.lo)]
 by_cases h1:0 < l∧cmpE a.lo b.lo≠0
 ·rw [if_pos h1] at h
  rw [if_pos ⟨h1.1,by (revert h1; lia)⟩]
  simp only [decide_eq_true_eq,decide_eq_false_iff_not] at *
  (revert h; lia)
 ·rw [if_neg h1] at h
  rw [if_neg (by intro h2; exact h1 ⟨h2.1,by (revert h2; lia)⟩)]
  simp only [decide_eq_true_eq,decide_eq_false_iff_not] at *
  (revert h; lia)
theorem LvOk.unique {cnt:Nat} {st:List (Int×Mt)} {ls ls':List (List Mt)} (h:LvOk cnt st ls) (h':LvOk cnt st ls'):ls=ls':=by
 refine List.ext_getElem? fun k=>?_
 by_cases hk:k < cnt
 ·obtain ⟨p1,w1⟩:=h.2.2 k hk
  obtain ⟨p2,w2⟩:=h'.2.2 k hk
  have e:ls.getD k []=ls'.getD k []:=by
   refine List.Perm.eq_of_pairwise (le:=fun a b=>befB k a b=true) (fun a b _ _ h1 h2=>?_) w1 w2 (p1.trans p2.symm)
   rw [befB_asymm h1] at h2; cases h2
  have l1:=h.2.1
  have l2:=h'.2.1
  rw [List.getD_eq_getElem?_getD,List.getD_eq_getElem?_getD,List.getElem?_eq_getElem (by (refine' (?_:_→_→_→_) hk l1 l2; lia)),List.getElem?_eq_getElem (by (refine' (?_:_→_→_→_) hk l1 l2; lia))] at e
  rw [List.getElem?_eq_getElem (by (refine' (?_:_→_→_→_) hk l1 l2; lia)),List.getElem?_eq_getElem (by (refine' (?_:_→_→_→_) hk l1 l2; lia))]
  exact congrArg some e
 ·rw [List.getElem?_eq_none (by have:=h.2.1; (revert hk this; lia)),List.getElem?_eq_none (by have:=h'.2.1; (revert hk this; lia))]
noncomputable def FinLaw (s:Mk) (bfss:List (List Mt)) (nl:Nat) (st:List (Int×Mt)):Prop:=∀ fss:List (List Mt),fss.length=nl→(∀ k,k < nl→FinOf s bfss k (fss.getD k []))→fss.flatten.length < 64∧(good st→LvOk nl st fss∧chkOk fss)∧(chkOk fss→good st)
theorem RunF.marked {Φ:Act} {n:Nat} {vs:Vars} {sc:Scope} (r:RunF Φ (n+1) vs sc) (e:Addr):RunF (Mine.Internal.marked Φ e) 0 vs sc:=⟨⟨marked_ok r.ok e,r.vars,r.scope,r.cx⟩,r.comp,r.inter,r.blk,r.hfe⟩
section
variable {c:Ctx} {n:Nat} {σ W:Sto} {Q:KV} {R:Sto→Prop} {H:List (Addr×O)}
theorem ok_law_finished (x:Cx c) {m b dl al io fl sc md:Addr} {s:Mk} {ds as:List (Addr×List (Int×V))} {nl N:Nat} {sl:Int} {bps:List (Addr×List V)} {bfss:List (List Mt)} {mvs:List V} {st:List (Int×Mt)} {lv:V}
  (A:At σ W ((md,.list mvs)::(mkH m b dl al s.dr ds as++H))) (is:MkIs W s ds as nl N) (hn:nl≤10) (zb:∀ fs∈bfss,fs.length≤100) (za:∀ a∈s.as,a.length < 64)
  (hb:(b,O.inst 466 (verF nl io fl sc sl))∈H) (hfl:(fl,O.list (rB bps))∈H) (hbl:∀ p∈bps,(p.1,O.list p.2)∈H) (hB:VLs W bps bfss) (hnb:bfss.length=nl) (ho:OrdAt W io)
  (ob:∀ fs∈bfss,∀ y∈fs,MtOk y) (oa:∀ k n y,gget (s.as.getD k []) n=some y→MtOk y) (hz:FinLaw s bfss nl st) (hlv:LvRes W nl st lv) (hmd:mvs.length≤1000)
  (q1:¬ good st→∀ σ' W',W.le W'→At σ' W' ((md,.list mvs)::(mkH m b dl al s.dr ds as++H))→Q (.bool true) σ')
  (q2:good st→∀ fss,LvOk nl st fss→(∀ fs∈fss,∀ y∈fs,MtOk y)→fss.flatten.length < 64→Rep W (levD fss) lv→∀ σ' W' t v fl' sc' ps,W.le W'→W' sc'=some (.tuple [.int 0,.int 1])→VLs W' ps fss→W' t=some (.tuple [.ref v,lv]) →
   At σ' W' ((md,.list (mvs++[.ref t]))::(verH v fl' nl io sc' (-1) ps++(mkH m b dl al s.dr ds as++H)))→Q (.bool true) σ'):Call c (n+10) (.ref 616) [.ref m,lv,.ref md] σ Q R:=by
 refine Call.go x (fn__law_finished x) fun Φ r=>?_
 refine (let M0:Loc:=_; (?_:SS _ _ M0 _ _ _))
 have A':At σ W (mkH m b dl al s.dr ds as++((md,.list mvs)::H)):=A.perm List.perm_middle.symm
 have back:∀ {σ' W':Sto} {X:List (Addr×O)},At σ' W' (X++(mkH m b dl al s.dr ds as++((md,.list mvs)::H)))→At σ' W' ((md,.list mvs)::(X++(mkH m b dl al s.dr ds as++H))):=fun {σ' W' X} A1=>by
  refine A1.perm ?_
  rw [← List.append_assoc,← List.append_assoc]
  exact List.perm_middle
 walk_at "s"
 walk_at "s"
 walk_at "s"
 refine (let M1:Loc:=_; st_ (M':=M1) rfl ?_)
 walk_at "s"
 refine SX_try (Rb:=fun M' σ'=>M'=[some (.ref m),some lv,some (.ref md),some .none]∧¬ good st∧∃ W',W.le W'∧At σ' W' ((md,.list mvs)::(mkH m b dl al s.dr ds as++H))) r.ok r.comp (by rw [r.scope]; exact of_decide_eq_true (by decide +kernel)) (exc_Corrupt r.cx) ?_ ?_
 ·walk_at "s"
  walk_at "s"
  refine SE_meth0 r.ok rfl ?_
  walk_at "go"
  refine me0_ r.cx (A.get (.tail _ (.head _))) rfl ?_
  refine ok_finish r.cx A' is hn zb za (.tail _ hb) (.tail _ hfl) (fun p hp=>.tail _ (hbl p hp)) hB hnb ho ob oa (fun fss h1 h2=>(hz fss h1 h2).1) (fun fss h1 h2 hc hok σ₁ W₁ v fl' sc' ps L1 hsc hV A1=>?_) (fun fss h1 h2 hc σ₁ W₁ L1 A1=>?_)
  ·obtain ⟨hz1,hz2,hz3⟩:=hz fss h1 h2
   have hg:=hz3 hc
   obtain ⟨hlo,_⟩:=hz2 hg
   obtain ⟨ls,hls,hrl⟩:∃ ls,LvOk nl st ls∧Rep W (levD ls) lv:=by
    rcases hlv with ⟨_,h⟩ | h
    ·exact absurd hg h
    ·exact h
   have:=hls.unique hlo
   subst this
   have A2:=back A1
   have zls:∀ fs∈ls,fs.length≤1000:=fun fs hfs=>by
    have:=List.Sublist.length_le (List.sublist_flatten_of_mem hfs)
    (revert hz1 this; lia)
   refine (let M1:Loc:=_; st_ (M':=M1) rfl ?_)
   walk_at "s"
   -- behind the try
   walk_at "s"
   walk_at "s"
   walk_at "s"
   walk_at "s"
   walk_at "s"
   walk_at "s"
   walk_at "s"
   refine cop_is_none ?_
   obtain ⟨la0,hla0⟩:∃ a,lv=.ref a:=by
    obtain ⟨a,_,h,_⟩:=hrl; exact ⟨a,h⟩
   subst hla0
   refine ⟨false,rfl,?_⟩
   refine if_F ?_
   walk_at "go"
   refine ok_law_shows r.cx A2 (las:=ps.map (·.1)) (fss:=ls) (ls:=ls) (A2.get (.tail _ (.head _))) (by rw [← rB_lB]; exact A2.get (.tail _ (.tail _ (.head _)))) (hV.levs A2.le (fun p hp=>A2.get (.tail _ (List.mem_append_left _ (.tail _ (.tail _ (List.mem_map.mpr ⟨p,hp,rfl⟩)))))) zls) (hrl.mono L1) hok (by rw [List.length_map,hV.1]; (revert hn hnb h1; lia)) (by (revert hn hnb h1; lia)) zls fun σ₂ bb hbb A3=>?_
   have:bb=true:=hbb.mpr rfl
   subst this
   refine ⟨_,rfl,?_⟩
   refine if_F ?_
   walk_at "go"
   refine if_F ?_
   walk_at "s"
   walk_at "s"
   refine X_ex ?_
   refine E_app ?_
   walk_at "go"
   refine ⟨md,mvs,rfl,A3.get (.head _),?_⟩
   walk_at "go"
   refine SE_tuple (by simp) ?_
   walk_at "go"
   refine ⟨by simp,fun t ht=>?_⟩
   have A4:=A3.newF (o:=.tuple [.ref v,(.ref la0)]) ht
   have L4:=A3.newle (o:=.tuple [.ref v,(.ref la0)]) ht
   have htW:(W₁.set t (.tuple [.ref v,(.ref la0)])) t=some (.tuple [.ref v,(.ref la0)]):=Sto.set_same
   generalize σ₂.set t (.tuple [.ref v,(.ref la0)])=σ₃ at A4
   generalize W₁.set t (.tuple [.ref v,(.ref la0)])=W₂ at A4 L4 htW
   walk_at "go"
   refine l_append (A4.get (.head _)) (by (revert hmd; lia)) ?_
   have A5:=A4.upd (o':=.list (mvs++[.ref t]))
   generalize σ₃.set md (.list (mvs++[.ref t]))=σ₄ at A5
   walk_at "s"
   walk_at "s"
   walk_at "s"
   refine SBo_and ?_
   walk_at "s"
   refine E_at ?_
   walk_at "go"
   refine at_ r.cx (A5.get (.tail _ (.head _))) rfl ?_
   refine SE_tuple (by simp) ?_
   walk_at "go"
   refine ⟨by simp,fun t2 ht2=>?_⟩
   have A6:=A5.newF (o:=.tuple [.int 0,.int 1]) ht2
   have L6:=A5.newle (o:=.tuple [.int 0,.int 1]) ht2
   have ra:∀ {a:Addr},W₂.set t2 (.tuple [.int 0,.int 1]) a=some (.tuple [.int 0,.int 1])→Rep (W₂.set t2 (.tuple [.int 0,.int 1])) (.tup [.int 0,.int 1]) (.ref a):=fun {a} h=>by
    exact ⟨a,_,rfl,h,_,_,rfl,rfl,_,_,rfl,rfl,rfl⟩
   refine cop_eq_rep (bb:=true) r.ok 1 (by lia) (by simp ) ((ra (L6 _ _ (L4 _ _ hsc))).mono A6.le) ((ra Sto.set_same).mono A6.le) (by simp) ?_
   refine ⟨true,rfl,?_⟩
   try refine ite_pos (by rfl) ?_
   refine SBo_and ?_
   walk_at "s"
   refine E_at ?_
   walk_at "go"
   refine at_ r.cx (A6.get (.tail _ (.head _))) rfl ?_
   walk_at "go"
   refine ⟨1,rfl,?_⟩
   refine ct_ ?_
   refine if_T ?_
   refine SBo_one ?_
   walk_at "s"
   refine E_at ?_
   walk_at "go"
   refine at_ r.cx (A6.get (.tail _ (.head _))) rfl ?_
   walk_at "go"
   refine cop_int ?_
   exact q2 hg ls hlo hok hz1 hrl _ _ t v fl' sc' ps (L1.trans' (L4.trans' L6)) ((L4.trans' L6) _ _ hsc) (hV.mono (L4.trans' L6)) (L6 _ _ htW) A6
  ·refine ⟨rfl,fun hg=>hc ((hz fss h1 h2).2.1 hg).2,W₁,L1,?_⟩
   exact back (X:=[]) A1
 ·rintro M' σ' ⟨rfl,hng,W',LW,A1⟩ e
  have r':=r.marked e
  walk_at "s"
  walk_at "s"
  walk_at "s"
  walk_at "s"
  walk_at "s"
  refine cop_is_none ?_
  have hlvn:lv=.none:=by
   rcases hlv with ⟨h,_⟩ | ⟨ls,h,_⟩
   ·exact h
   ·exact absurd h.1 hng
  subst hlvn
  exact q1 hng σ' W' LW A1
end
noncomputable def rsOf (said:List Wd):Bool:=said.any fun w=>w.k == 0
noncomputable def delsOf (said:List Wd):List (Int×Int):=said.filterMap fun w=>if w.k=1 then some (w.l,w.n) else none
noncomputable def addsOf (said:List Wd):List (Int×Mt):=said.filterMap fun w=>if w.k=0∨w.k=1 then none else w.m.map fun m=>(w.l,m)
noncomputable def badOf (cnt:Int) (said:List Wd):Bool:=said.any fun w=>decide (w.l < 0) || decide (cnt≤w.l)
structure SaidOk (w:Wd):Prop where
 k:w.k=0∨w.k=1∨w.k=2
 m:w.k=2→∃ m,w.m=some m∧MtOk m
 z:w.k=0→w.l=0
 l:w.l.natAbs < 1000
noncomputable def told (cnt:Int) (s:Mk) (said:List Wd):Mk:=if badOf cnt said then s else s.apply (rsOf said) (delsOf said) (addsOf said)
theorem dels_len (said:List Wd):(delsOf said).length+(addsOf said).length≤said.length:=by
 induction said with
 | nil=>simp [delsOf,addsOf]
 | cons w said ih =>
  have e1:(delsOf (w::said)).length=(if w.k=1 then 1 else 0)+(delsOf said).length:=by
   unfold delsOf; rw [List.filterMap_cons]; by_cases h:w.k=1 <;> simp [h] <;> lia
  have e2:(addsOf (w::said)).length≤(if w.k=1 then 0 else 1)+(addsOf said).length:=by
   unfold addsOf; rw [List.filterMap_cons]
   by_cases h:w.k=0∨w.k=1
   ·rw [if_pos h]; simp only; lia
   ·rw [if_neg h]
    have h1:¬ w.k=1:=fun e=>h (.inr e)
    rw [if_neg h1]
    cases w.m <;> simp <;> lia
  simp only [List.length_cons]
  by_cases h:w.k=1
  ·rw [if_pos h] at e1 e2; (revert ih e1 e2; lia)
  ·rw [if_neg h] at e1 e2; (revert ih e1 e2; lia)
theorem bad_iff {cnt:Nat} (hc:0 < cnt) {said:List Wd} (hs:∀ w∈said,SaidOk w):badOf cnt said=false↔(∀ p∈delsOf said,0≤p.1∧p.1 < (cnt:Int))∧(∀ p∈addsOf said,0≤p.1∧p.1 < (cnt:Int)):=by
 unfold badOf
 rw [List.any_eq_false]
 constructor
 ·intro h
  constructor
  ·intro p hp
   obtain ⟨w,hw,e⟩:=List.mem_filterMap.mp hp
   have:=h w hw
   split at e
   ·cases e; simp at this; exact ⟨this.1,this.2⟩
   ·cases e
  ·intro p hp
   obtain ⟨w,hw,e⟩:=List.mem_filterMap.mp hp
   have:=h w hw
   split at e
   ·cases e
   ·obtain ⟨m,_,rfl⟩:=Option.map_eq_some_iff.mp e
    simp at this; exact ⟨this.1,this.2⟩
 ·rintro ⟨h1,h2⟩ w hw
  have ok:=hs w hw
  have:0≤w.l∧w.l < cnt:=by
   rcases ok.k with h | h | h
   ·rw [ok.z h]; (revert hc; lia)
   ·exact h1 (w.l,w.n) (List.mem_filterMap.mpr ⟨w,hw,by rw [if_pos h]⟩)
   ·obtain ⟨m,hm,_⟩:=ok.m h
    exact h2 (w.l,m) (List.mem_filterMap.mpr ⟨w,hw,by rw [if_neg (by (revert h; lia)),hm]; rfl⟩)
  simp; (revert this; lia)
theorem zip_self {α:Type} {xs:List α} {p:α×α} (h:p∈xs.zip xs):p.1=p.2∧p.1∈xs:=by
 induction xs with
 | nil=>simp at h
 | cons x xs ih =>
  rw [List.zip_cons_cons] at h
  rcases List.mem_cons.mp h with rfl | h
  ·exact ⟨rfl,.head _⟩
  ·exact ⟨(ih h).1,.tail _ (ih h).2⟩
theorem kin_erow (dels:List (Int×Int)) (adds:List (Int×Mt)) (rs:Bool):kin 4 (erowD (dels.map endD) adds rs) (erowD (dels.map endD) adds rs):=by
 unfold erowD
 refine .tup fun p hp=>?_
 obtain ⟨h1,h2⟩:=zip_self hp
 rw [← h1]
 have row:∀ m,kin 1 (rowD m) (rowD m):=fun m=>kin_row m m
 simp only [List.mem_cons,List.not_mem_nil,or_false] at h2
 have hd:kin 3 (.tup (dels.map endD)) (.tup (dels.map endD)):=by
  refine .tup fun q hq=>?_
  obtain ⟨g1,g2⟩:=zip_self hq
  rw [← g1]
  obtain ⟨d,_,e⟩:=List.mem_map.mp g2
  rw [← e]
  simp [endD]
 have ha:kin 3 (.tup (adds.map arD)) (.tup (adds.map arD)):=by
  refine .tup fun q hq=>?_
  obtain ⟨g1,g2⟩:=zip_self hq
  rw [← g1]
  obtain ⟨d,_,e⟩:=List.mem_map.mp g2
  rw [← e]
  simp [arD,rowD]
 rcases h2 with h | h | h | h | h | h | h | h <;> rw [h]
 ·simp
 ·simp
 ·simp
 ·simp
 ·simp
 ·exact hd
 ·exact ha
 ·simp
section
variable {c:Ctx} {n:Nat} {σ W:Sto} {Q:KV} {R:Sto→Prop} {H:List (Addr×O)}
theorem ok_law_told (x:Cx c) {m b dl al io fl sc sa:Addr} {s:Mk} {ds as:List (Addr×List (Int×V))} {nl N:Nat} {sl:Int} {said:List Wd} {svs:List V}
  (A:At σ W (mkH m b dl al s.dr ds as++H)) (is:MkIs W s ds as nl N) (hN:N+said.length≤1000) (hn:nl≤100) (hn0:0 < nl) (hb:(b,O.inst 466 (verF nl io fl sc sl))∈H)
  (hsa:W sa=some (.list svs)) (hr:Reps W (said.map wdD) svs) (hs:∀ w∈said,SaidOk w)
  (q:∀ σ' W' ds' as',W.le W'→At σ' W' (mkH m b dl al (told nl s said).dr ds' as'++H)→MkIs W' (told nl s said) ds' as' nl (N+said.length)→Q (.bool true) σ') :
  Call c (n+6) (.ref 623) [.ref m,.ref sa,.int nl] σ Q R:=by
 let LL:=fun (x3 x4 x5 x6 x7 x8 x9 x10:Option V)=>([some (.ref m),some (.ref sa),some (.int nl),x3,x4,x5,x6,x7,x8,x9,x10]:Loc)
 refine Call.go x (fn__law_told x) fun Φ r=>?_
 refine (let M0:Loc:=_; (?_:SS _ _ M0 _ _ _))
 have hsl:svs.length=said.length:=by rw [hr.length,List.length_map]
 walk_at "go"
 refine ok_VersionEdit r.cx A fun σ₁ e cp edl eal A1=>?_
 refine (let M1:Loc:=_; st_ (M':=M1) rfl ?_)
 walk_at "go"
 refine (let M1:Loc:=_; st_ (M':=M1) rfl ?_)
 walk_at "s"
 refine X_for ?_
 walk_at "go"
 refine ⟨sa,svs,rfl,?_⟩
 suffices main:∀ (rest:List V) (done todo:List Wd) (dvs avs:List V) (W₁ σ₁:Sto) (o5 o6 o7 o8:Option V),said=done++todo→W.le W₁→Reps W (todo.map wdD) rest→Reps W₁ ((delsOf done).map endD) dvs→Reps W₁ ((addsOf done).map addD) avs →
   At σ₁ W₁ ((e,.inst 375 (editF cp edl eal (rsOf done)))::(edl,.list dvs)::(eal,.list avs)::(cp,.list [])::(mkH m b dl al s.dr ds as++H)) →
   ForG Φ _ _ (fun σ=>σ sa=some (.list svs)) _ _ rest (LL (some (.ref e)) (some (.bool (badOf nl done))) o5 o6 o7 o8 none none) σ₁ from
  main svs [] said [] [] W σ₁ none none none none rfl (Sto.le_refl _) hr rfl rfl A1
 clear A1 σ₁
 intro rest
 induction rest with
 | cons v rest ih =>
  intro done todo dvs avs W₁ σ₁ o5 o6 o7 o8 h1 hW h2 h3 h4 A1
  obtain ⟨w,ra,rfl,hp,h2c⟩:=list_more h2
  obtain ⟨a,mv,rfl,ha,hmv⟩:=rep_wd.mp hp
  have hwok:=hs w (by rw [h1]; simp)
  have hdl:=dels_len done
  have hsaid:=congrArg List.length h1
  simp only [List.length_append,List.length_cons] at hsaid
  have hdvl:dvs.length=(delsOf done).length:=by rw [h3.length,List.length_map]
  have havl:avs.length=(addsOf done).length:=by rw [h4.length,List.length_map]
  refine ⟨A1.fz (hW _ _ hsa),?_⟩
  refine (let M1:Loc:=_; let F1:KF:=_; SG_t (M':=M1) (K:=kSb _ _ F1 _) r.toRun (A1.fz (hW _ _ ha)) rfl ?_)
  refine SS_cons (SX.mono (F:=fun f M' σ'=>f=.next∧M'=(LL (some (.ref e)) (some (.bool (badOf nl done))) (some (.int w.k)) (some (.int w.l)) (some (.int w.n)) (some mv) none none)∧∃ W' dvs' avs',W₁.le W'∧Reps W' ((delsOf (done++[w])).map endD) dvs'∧Reps W' ((addsOf (done++[w])).map addD) avs' ∧
   At σ' W' ((e,.inst 375 (editF cp edl eal (rsOf (done++[w]))))::(edl,.list dvs')::(eal,.list avs')::(cp,.list [])::(mkH m b dl al s.dr ds as++H))) ?_ ?_)
  ·have ers:rsOf (done++[w])=(rsOf done || w.k == 0):=by unfold rsOf; simp
   have eds:delsOf (done++[w])=delsOf done++(if w.k=1 then [(w.l,w.n)] else []):=by
    unfold delsOf; rw [List.filterMap_append]
    by_cases h:w.k=1 <;> simp [h]
   have eas:addsOf (done++[w])=addsOf done++(if w.k=0∨w.k=1 then [] else (w.m.map fun m=>(w.l,m)).toList):=by
    unfold addsOf; rw [List.filterMap_append]
    by_cases h:w.k=0∨w.k=1
    ·simp [h]
    ·cases hm:w.m <;> simp [h,hm]
   walk_at "go"
   refine ct_ ?_
   by_cases hk0:w.k=0
   ·refine if_t hk0 ?_
    walk_at "s"
    refine X_sa ?_
    walk_at "go"
    refine sa_ (fs':=editF cp edl eal true) r.cx (A1.get (.head _)) rfl ?_
    have A2:=A1.upd (o':=.inst 375 (editF cp edl eal true))
    walk_at "s"
    refine ⟨rfl,rfl,W₁,dvs,avs,Sto.le_refl _,?_,?_,?_⟩
    ·rw [eds,if_neg (by (revert hk0; lia)),List.append_nil]; exact h3
    ·rw [eas,if_pos (.inl hk0),List.append_nil]; exact h4
    ·rw [ers,hk0]; simpa using A2
   ·refine if_f hk0 ?_
    walk_at "go"
    refine ct_ ?_
    by_cases hk1:w.k=1
    ·refine if_t hk1 ?_
     walk_at "s"
     refine X_ex ?_
     refine E_app ?_
     refine E_at ?_
     walk_at "go"
     refine at_ r.cx (A1.get (.head _)) rfl ?_
     refine ⟨edl,dvs,rfl,A1.get (.tail _ (.head _)),?_⟩
     walk_at "go"
     refine SE_tuple (by simp) ?_
     walk_at "go"
     refine ⟨by simp,fun t ht=>?_⟩
     have A2:=A1.newF (o:=.tuple [.int w.l,.int w.n]) ht
     have L2:=A1.newle (o:=.tuple [.int w.l,.int w.n]) ht
     walk_at "go"
     refine l_append (A2.get (.tail _ (.head _))) (by (revert hN hsl hdl hsaid hdvl havl; lia)) ?_
     have A3:=At.mid (P:=[(e,.inst 375 (editF cp edl eal (rsOf done)))]) (o':=.list (dvs++[.ref t])) A2
     walk_at "s"
     walk_at "s"
     refine ⟨rfl,rfl,_,dvs++[.ref t],avs,L2,?_,?_,?_⟩
     ·rw [eds,if_pos hk1,List.map_append]
      exact (h3.mono L2).snoc (rep_end.mpr ⟨t,rfl,Sto.set_same⟩)
     ·rw [eas,if_pos (.inr hk1),List.append_nil]; exact h4.mono L2
     ·rw [ers,show (w.k == 0)=false by simpa using hk0,Bool.or_false]; exact A3
    ·refine if_f hk1 ?_
     have hk2:w.k=2:=by have:=hwok.k; (revert hk0 hk1 this; lia)
     obtain ⟨mt,hm,hmt⟩:=hwok.m hk2
     rw [hm] at hmv
     walk_at "s"
     refine X_ex ?_
     refine E_app ?_
     refine E_at ?_
     walk_at "go"
     refine at_ r.cx (A1.get (.head _)) rfl ?_
     refine ⟨eal,avs,rfl,A1.get (.tail _ (.tail _ (.head _))),?_⟩
     walk_at "go"
     refine ok_law_meta r.cx A1 hmt (hmv.mono hW) fun σ₂ W₂ t fm L2 A2 ht hfm=>?_
     walk_at "go"
     refine l_append (A2.get (.tail _ (.tail _ (.head _)))) (by (revert hN hsl hdl hsaid hdvl havl; lia)) ?_
     have A3:=At.mid (P:=[(e,.inst 375 (editF cp edl eal (rsOf done))),(edl,.list dvs)]) (o':=.list (avs++[.ref t])) A2
     walk_at "s"
     walk_at "s"
     refine ⟨rfl,rfl,W₂,dvs,avs++[.ref t],L2,?_,?_,?_⟩
     ·rw [eds,if_neg hk1,List.append_nil]; exact h3.mono L2
     ·rw [eas,if_neg (by (revert hk2; lia)),List.map_append,hm]
      exact (h4.mono L2).snoc (rep_add.mpr ⟨t,fm,rfl,ht,hfm⟩)
     ·rw [ers,show (w.k == 0)=false by simpa using hk0,Bool.or_false]; exact A3
  ·rintro f M' σ' ⟨rfl,rfl,W',dvs',avs',L',g3,g4,A2⟩
   have ebd:badOf nl (done++[w])=(badOf nl done || (decide (w.l < 0) || decide ((nl:Int)≤w.l))):=by unfold badOf; simp
   have next:ForG Φ _ _ (fun σ=>σ sa=some (.list svs)) _ _ rest (LL (some (.ref e)) (some (.bool (badOf nl (done++[w])))) (some (.int w.k)) (some (.int w.l)) (some (.int w.n)) (some mv) none none) σ' :=
    ih (done++[w]) ra dvs' avs' W' σ' (some (.int w.k)) (some (.int w.l)) (some (.int w.n)) (some mv) (by rw [h1]; simp) (hW.trans' L') h2c g3 g4 A2
   rw [ebd] at next
   walk_at "s"
   walk_at "s"
   walk_at "s"
   refine SBo_or ?_
   walk_at "s"
   refine ⟨_,rfl,?_⟩
   cases hbd:badOf nl done with
   | true =>
    try refine ite_pos (by rfl) ?_
    refine (let M1:Loc:=_; st_ (M':=M1) rfl ?_)
    walk_at "s"
    rw [hbd] at next
    simpa using next
   | false =>
    refine if_F ?_
    rw [hbd,Bool.false_or] at next
    refine SBo_or ?_
    walk_at "go"
    refine ct_ ?_
    by_cases c1:w.l < 0
    ·refine if_t c1 ?_
     refine (let M1:Loc:=_; st_ (M':=M1) rfl ?_)
     walk_at "s"
     simpa [c1] using next
    ·refine if_f c1 ?_
     refine SBo_one ?_
     walk_at "go"
     refine cop_int ?_
     refine (let M1:Loc:=_; st_ (M':=M1) rfl ?_)
     walk_at "s"
     simpa [c1] using next
 | nil =>
 intro done todo dvs avs W₁ σ₁ o5 o6 o7 o8 h1 hW h2 h3 h4 A1
 obtain rfl:=list_end h2
 rw [List.append_nil] at h1
 subst h1
 refine ⟨A1.fz (hW _ _ hsa),?_⟩
 clear h2
 have hdl:=dels_len said
 have hdvl:dvs.length=(delsOf said).length:=by rw [h3.length,List.length_map]
 have havl:avs.length=(addsOf said).length:=by rw [h4.length,List.length_map]
 walk_at "s"
 walk_at "s"
 refine SE_meth0 r.ok rfl ?_
 walk_at "go"
 refine me0_ r.cx (A1.get (.head _)) rfl ?_
 refine ok_VersionEdit_row r.cx A1 h3 h4 (by (revert hN hsl hdl hdvl havl; lia)) (by (revert hN hsl hdl hdvl havl; lia)) fun σ₂ W₂ rv L2 A2 hrow=>?_
 refine (let M1:Loc:=_; st_ (M':=M1) rfl ?_)
 walk_at "s"
 walk_at "s"
 walk_at "s"
 refine st_ rfl ?_
 have is2:=is.mono (hW.trans' L2)
 have h3:=h3.mono L2
 have h4:=h4.mono L2
 clear A1
 have bd:∀ p∈delsOf said,p.1.natAbs < 1000:=fun p hp=>by
  obtain ⟨w,hw,e⟩:=List.mem_filterMap.mp hp
  split at e
  ·cases e; exact (hs w hw).l
  ·cases e
 have ba:∀ p∈addsOf said,p.1.natAbs < 1000:=fun p hp=>by
  obtain ⟨w,hw,e⟩:=List.mem_filterMap.mp hp
  split at e
  ·cases e
  ·obtain ⟨m,_,rfl⟩:=Option.map_eq_some_iff.mp e
   exact (hs w hw).l
 have A3:At σ₂ W₂ (mkH m b dl al s.dr ds as++([(e,.inst 375 (editF cp edl eal (rsOf said))),(edl,.list dvs),(eal,.list avs),(cp,.list [])]++H)):=A2.perm (by
  show ([(e,O.inst 375 (editF cp edl eal (rsOf said))),(edl,.list dvs),(eal,.list avs),(cp,.list [])]++(mkH m b dl al s.dr ds as++H)).Perm _
  rw [← List.append_assoc,← List.append_assoc]
  exact List.Perm.append_right _ List.perm_append_comm)
 have bk:∀ {σ' W':Sto} {X E:List (Addr×O)},At σ' W' (X++(E++H))→At σ' W' (E++(X++H)):=fun {σ' W' X E} A=>A.perm (by
  rw [← List.append_assoc,← List.append_assoc]
  exact List.Perm.append_right _ List.perm_append_comm)
 -- the apply
 refine SS_cons (SX.mono (F:=fun f M' σ'=>f=.next∧M'=(LL (some (.ref e)) (some (.bool (badOf nl said))) o5 o6 o7 o8 (some rv) (some (.bool (badOf nl said))))∧∃ ds' as',MkIs W₂ (told nl s said) ds' as' nl (N+said.length) ∧
  At σ' W₂ ((e,.inst 375 (editF cp edl eal (rsOf said)))::(edl,.list dvs)::(eal,.list avs)::(cp,.list [])::(mkH m b dl al (told nl s said).dr ds' as'++H))) ?_ ?_)
 ·refine SX_try (Rb:=fun M' σ'=>M'=(LL (some (.ref e)) (some (.bool (badOf nl said))) o5 o6 o7 o8 (some rv) (some (.bool false)))∧badOf nl said=true∧σ'=σ₂) r.ok r.comp (by rw [r.scope]; exact of_decide_eq_true (by decide +kernel)) (exc_Corrupt r.cx) ?_ ?_
  ·walk_at "s"
   refine X_ex ?_
   refine SE_meth r.ok rfl rfl rfl ?_
   walk_at "go"
   refine me_ r.cx (A3.get (.head _)) rfl ?_
   walk_at "go"
   refine ok_apply r.cx A3 is2 (by (revert hN hsl hdl hdvl havl; lia)) hn (List.mem_append_right _ hb) (.head _) (.tail _ (.head _)) (.tail _ (.tail _ (.head _))) h3 h4 bd ba (fun g1 g2 σ₃ ds' as' A4 is4=>?_) (fun hne=>?_)
   ·have hbf:badOf nl said=false:=(bad_iff hn0 hs).mpr ⟨g1,g2⟩
    have et:told nl s said=s.apply (rsOf said) (delsOf said) (addsOf said):=by unfold told; rw [hbf]; rfl
    walk_at "go"
    rw [et,hbf]
    exact ⟨rfl,rfl,ds',as',is4.le (by (revert hsl hdl hdvl havl; lia)),bk A4⟩
   ·refine ⟨rfl,?_,rfl⟩
    cases hbf:badOf nl said with
    | true=>rfl
    | false=>exact absurd ((bad_iff hn0 hs).mp hbf) hne
  ·rintro M' σ' ⟨rfl,hbt,rfl⟩ ex
   have r':=r.marked ex
   have et:told nl s said=s:=by unfold told; rw [hbt]; rfl
   walk_at "s"
   walk_at "s"
   walk_at "s"
   refine st_ rfl ?_
   walk_at "s"
   rw [et,hbt]
   exact ⟨rfl,rfl,ds,as,is2.le (by (revert hsl; lia)),bk A3⟩
 rintro f M' σ₃ ⟨rfl,rfl,ds',as',is3,A4⟩
 clear A3 A2
 walk_at "s"
 walk_at "s"
 walk_at "s"
 refine SE_meth0 r.ok rfl ?_
 walk_at "go"
 refine me0_ r.cx (A4.get (.head _)) rfl ?_
 refine ok_VersionEdit_row r.cx A4 h3 h4 (by (revert hN hsl hdl hdvl havl; lia)) (by (revert hN hsl hdl hdvl havl; lia)) fun σ₄ W₃ rv2 L3 A5 hrow2=>?_
 walk_at "go"
 refine cop_ne_rep (bb:=true) r.ok 4 (by lia) (kin_erow _ _ _) (hrow2.mono A5.le) (hrow.mono (L3.trans' A5.le)) (by simp) ?_
 refine ⟨false,rfl,?_⟩
 refine if_F ?_
 walk_at "s"
 walk_at "s"
 refine X_sa ?_
 walk_at "s"
 refine E_at ?_
 walk_at "go"
 refine at_ r.cx (A5.get (.head _)) rfl ?_
 refine ⟨_,rfl,?_⟩
 walk_at "go"
 refine sa_ (fs':=editF cp edl eal (!rsOf said)) r.cx (A5.get (.head _)) rfl ?_
 have A6:=A5.upd (o':=.inst 375 (editF cp edl eal (!rsOf said)))
 generalize σ₄.set e (.inst 375 (editF cp edl eal (!rsOf said)))=σ₅ at A6
 clear A5 A4
 walk_at "s"
 refine X_ex ?_
 refine E_app ?_
 refine E_at ?_
 walk_at "go"
 refine at_ r.cx (A6.get (.head _)) rfl ?_
 refine ⟨edl,dvs,rfl,A6.get (.tail _ (.head _)),?_⟩
 walk_at "go"
 refine SE_tuple (by simp) ?_
 walk_at "go"
 refine ⟨by simp,fun t ht=>?_⟩
 have A7:=A6.newF (o:=.tuple [.int 1,.int 10]) ht
 have L7:=A6.newle (o:=.tuple [.int 1,.int 10]) ht
 walk_at "go"
 refine l_append (A7.get (.tail _ (.head _))) (by (revert hN hsl hdl hdvl havl; lia)) ?_
 have A8:=At.mid (P:=[(e,.inst 375 (editF cp edl eal (!rsOf said)))]) (o':=.list (dvs++[.ref t])) A7
 generalize (σ₅.set t (.tuple [.int 1,.int 10])).set edl (.list (dvs++[.ref t]))=σ₆ at A8
 clear A7
 -- the pop
 let F1:KF:=fun f M' σ'=>f=.next∧M'=(LL (some (.ref e)) (some (.bool (badOf nl said))) o5 o6 o7 o8 (some rv) (some (.bool (badOf nl said))))∧∃ us,us.length≤1000∧At σ' (W₃.set t (.tuple [.int 1,.int 10])) ((e,.inst 375 (editF cp edl eal (!rsOf said)))::(edl,.list (dvs++[.ref t]))::(eal,.list us)::(cp,.list [])::(mkH m b dl al (told nl s said).dr ds' as'++H))
 refine SS_cons (SX.mono (F:=F1) ?_ ?_)
 ·walk_at "s"
  walk_at "go"
  refine E_at ?_
  walk_at "go"
  refine at_ r.cx (A8.get (.head _)) rfl ?_
  walk_at "go"
  refine b_len_list (A8.get (.tail _ (.tail _ (.head _)))) (by (revert hN hsl hdl hdvl havl; lia)) ?_
  walk_at "go"
  refine ct_ ?_
  rcases List.eq_nil_or_concat avs with rfl | ⟨us,u,rfl⟩
  ·refine if_F ?_
   walk_at "s"
   exact ⟨rfl,rfl,[],by simp,A8⟩
  ·refine ite_pos (by simp) ?_
   walk_at "s"
   refine X_ex ?_
   refine SE_lmeth0 r.ok PySem.F.slot_list_pop rfl rfl ?_
   refine E_at ?_
   walk_at "go"
   refine at_ r.cx (A8.get (.head _)) rfl ?_
   rw [List.concat_eq_append] at A8 havl
   simp only [List.length_append,List.length_cons,List.length_nil] at havl
   refine ⟨eal,us++[u],rfl,A8.get (.tail _ (.tail _ (.head _))),?_⟩
   refine l_pop (A8.get (.tail _ (.tail _ (.head _)))) (by (revert hN hsl hdl hdvl havl; lia)) ?_
   have A9:=At.mid (P:=[(e,.inst 375 (editF cp edl eal (!rsOf said))),(edl,.list (dvs++[.ref t]))]) (o':=.list us) A8
   walk_at "s"
   exact ⟨rfl,rfl,us,by (revert hN hsl hdl hdvl havl; lia),A9⟩
 rintro f M' σ₇ ⟨rfl,rfl,us,husl,A9⟩
 clear A8
 walk_at "s"
 refine X_ex ?_
 refine E_app ?_
 refine E_at ?_
 walk_at "go"
 refine at_ r.cx (A9.get (.head _)) rfl ?_
 refine ⟨eal,us,rfl,A9.get (.tail _ (.tail _ (.head _))),?_⟩
 walk_at "go"
 refine SE_tuple (by simp) ?_
 walk_at "go"
 refine SE_tuple (by simp) ?_
 walk_at "go"
 refine ⟨_,rfl,?_⟩
 walk_at "go"
 refine ⟨by simp,fun a1 g1=>?_⟩
 walk_at "go"
 refine SE_tuple (by simp) ?_
 walk_at "go"
 refine ⟨_,rfl,?_⟩
 walk_at "go"
 refine ⟨by simp,fun a2 g2=>?_⟩
 walk_at "go"
 refine ⟨by simp,fun a3 g3=>?_⟩
 have A10:=((A9.newF (o:=.tuple [.int 0,.int (-1)]) g1).newF (o:=.tuple [.int 0,.int (-1)]) g2).newF (o:=.tuple [.int 77,.int 7,.ref a1,.ref a2]) g3
 have L10:=(A9.newle (o:=.tuple [.int 0,.int (-1)]) g1).trans' (((A9.newF (o:=.tuple [.int 0,.int (-1)]) g1).newle (o:=.tuple [.int 0,.int (-1)]) g2).trans' (((A9.newF (o:=.tuple [.int 0,.int (-1)]) g1).newF (o:=.tuple [.int 0,.int (-1)]) g2).newle (o:=.tuple [.int 77,.int 7,.ref a1,.ref a2]) g3))
 have hne1:a1≠a2:=fun e=>by rw [e,Sto.set_same] at g2; cases g2
 have hne2:a2≠a3:=fun e=>by rw [e,Sto.set_same] at g3; cases g3
 have hne3:a1≠a3:=fun e=>by rw [e,Sto.set_ne (fun q=>hne1 (e.trans q)),Sto.set_same] at g3; cases g3
 walk_at "go"
 refine ok_law_meta r.cx A10 (m:=⟨77,7,(0,-1),(0,-1)⟩) ⟨⟨by decide,by decide,by decide,by decide⟩,⟨by decide,by decide,by decide,by decide⟩,by decide,by decide,by decide,by decide⟩ (rep_mt.mpr ⟨a3,a1,a2,rfl,Sto.set_same,?_,?_⟩) fun σ₈ W₈ t2 fm L8 A11 ht2 hfm=>?_
 ·rw [Sto.set_ne hne3,Sto.set_ne hne1,Sto.set_same]
 ·rw [Sto.set_ne hne2,Sto.set_same]
 walk_at "go"
 refine l_append (A11.get (.tail _ (.tail _ (.head _)))) (by (revert husl; lia)) ?_
 have A12:=At.mid (P:=[(e,.inst 375 (editF cp edl eal (!rsOf said))),(edl,.list (dvs++[.ref t]))]) (o':=.list (us++[.ref t2])) A11
 walk_at "go"
 have LL:W.le W₈:=hW.trans' (L2.trans' (L3.trans' (L7.trans' (L10.trans' L8))))
 refine cop_eq_rep (d:=.bool (badOf nl said)) (d':=.bool (badOf nl said)) (bb:=true) r.ok 0 (by lia) (by simp ) rfl rfl (by simp) ?_
 refine q _ W₈ ds' as' LL (A12.sub ?_) (is3.mono (L3.trans' (L7.trans' (L10.trans' L8))))
 exact (List.sublist_cons_self _ _).trans ((List.sublist_cons_self _ _).trans ((List.sublist_cons_self _ _).trans (List.sublist_cons_self _ _)))
end
structure WordOk (B:Int) (w:Wd):Prop where
 k:w.k=0∨w.k=1∨w.k=2
 m:w.k=2→∃ m,w.m=some m∧MtOk m∧m.n=w.n∧m.s≤B
 z:w.k=0→w.l=0
 l:w.l.natAbs < 1000
theorem WordOk.said {B:Int} {w:Wd} (h:WordOk B w):SaidOk w:=⟨h.k,fun e=>by obtain ⟨m,a,b,_⟩:=h.m e; exact ⟨m,a,b⟩,h.z,h.l⟩
theorem WordOk.wd {B:Int} {w:Wd} (h:WordOk B w):WdOk w:=fun e=>by obtain ⟨m,a,_⟩:=h.m e; exact ⟨m,a⟩
theorem WordOk.mono {B B':Int} {w:Wd} (hb:B≤B') (h:WordOk B w):WordOk B' w:=⟨h.k,fun e=>by obtain ⟨m,a,b,c,d⟩:=h.m e; exact ⟨m,a,b,c,by (revert hb d; lia)⟩,h.z,h.l⟩
noncomputable def inR (cnt:Int) (w:Wd):Prop:=0≤w.l∧w.l < cnt
noncomputable def Zer (raw:List Wd):Prop:=∃ z r:List Wd,raw=z++r∧(∀ w∈z,w.k=0)∧∀ w∈r,w.k=1∨w.k=2
theorem Zer.snoc {raw:List Wd} {w:Wd} (h:Zer raw) (hw:w.k=1∨w.k=2):Zer (raw++[w]):=by
 obtain ⟨z,r,rfl,h1,h2⟩:=h
 refine ⟨z,r++[w],by simp,h1,fun u hu=>?_⟩
 rcases List.mem_append.mp hu with hu | hu
 ·exact h2 u hu
 ·rw [List.mem_singleton] at hu; subst hu; exact hw
noncomputable def Ord (said:List Wd):Prop:=∃ z o t:List Wd,said=z++(o++t)∧(∀ w∈z,w.k=0)∧(∀ w∈o,w.k=1)∧∀ w∈t,w.k=2
theorem Zer.ord {raw:List Wd} (h:Zer raw):Ord (raw.filter (fun w=>decide (w.k < 2))++raw.filter (fun w=>decide (w.k=2))):=by
 obtain ⟨z,r,rfl,h1,h2⟩:=h
 have e1:z.filter (fun w=>decide (w.k < 2))=z:=List.filter_eq_self.mpr fun w hw=>by rw [h1 w hw]; rfl
 have e2:z.filter (fun w=>decide (w.k=2))=[]:=List.filter_eq_nil_iff.mpr fun w hw=>by rw [h1 w hw]; simp
 refine ⟨z,r.filter (fun w=>decide (w.k < 2)),r.filter (fun w=>decide (w.k=2)),?_,h1,fun w hw=>?_,fun w hw=>?_⟩
 ·rw [List.filter_append,List.filter_append,e1,e2]; simp
 ·have:=List.mem_filter.mp hw
  have h3:=h2 w this.1
  have h4:=this.2
  simp only [decide_eq_true_eq] at h4
  (revert h3 h4; lia)
 ·have:=List.mem_filter.mp hw
  simpa using this.2
theorem tidy_ok {v cnt t:Int} (hv:0≤v) (h1:1≤cnt) (h2:cnt≤4) (t0:0≤t) (t1:t≤100):(0≤(tidy v cnt t).1∧(tidy v cnt t).1 < cnt)∧MtOk (tidy v cnt t).2∧(tidy v cnt t).2.s≤60:=by
 have a1:=Int.emod_nonneg v (show cnt≠0 by (revert h1 h2; lia))
 have a2:=Int.emod_lt_of_pos v (show 0 < cnt by (revert h1 h2; lia))
 unfold tidy
 by_cases h:v%cnt=0
 ·rw [if_pos h]
  refine ⟨by simp only; (revert h1 h2; lia),⟨⟨?_,?_,?_,?_⟩,⟨?_,?_,?_,?_⟩,?_,?_,?_,?_⟩,?_⟩ <;> simp only <;> (revert t0 t1; lia)
 ·rw [if_neg h]
  refine ⟨by simp only; (revert a1 a2; lia),⟨⟨?_,?_,?_,?_⟩,⟨?_,?_,?_,?_⟩,?_,?_,?_,?_⟩,?_⟩ <;> simp only <;> (revert h1 h2 a1 a2; lia)
theorem wild_ok {v cnt t:Int} (hv:0≤v) (h1:2≤cnt) (h2:cnt≤4) (t0:0≤t) (t1:t≤100):(0≤(wild v cnt t).1∧(wild v cnt t).1 < cnt)∧MtOk (wild v cnt t).2∧(wild v cnt t).2.s≤60:=by
 have a1:=Int.emod_nonneg (v / 3) (show cnt-1≠0 by (revert h1 h2; lia))
 have a2:=Int.emod_lt_of_pos (v / 3) (show 0 < cnt-1 by (revert h1 h2; lia))
 have a3:=Int.emod_nonneg (v / 3) (show cnt≠0 by (revert h1 h2; lia))
 have a4:=Int.emod_lt_of_pos (v / 3) (show 0 < cnt by (revert h1 h2; lia))
 unfold wild
 split
 ·refine ⟨by simp only; (revert a1 a2; lia),⟨⟨?_,?_,?_,?_⟩,⟨?_,?_,?_,?_⟩,?_,?_,?_,?_⟩,?_⟩ <;> simp only <;> (revert t0 t1; lia)
 ·split
  ·refine ⟨by simp only; (revert h1 h2; lia),⟨⟨?_,?_,?_,?_⟩,⟨?_,?_,?_,?_⟩,?_,?_,?_,?_⟩,?_⟩ <;> simp only <;> lia
  ·refine ⟨by simp only; (revert a3 a4; lia),⟨⟨?_,?_,?_,?_⟩,⟨?_,?_,?_,?_⟩,?_,?_,?_,?_⟩,?_⟩ <;> simp only <;> (revert t0 t1; lia)
section
variable {σ W:Sto} {H:List (Addr×O)}
theorem push_wd {D t:Addr} {acc:List V} {raw:List Wd} {w:Wd} {mv:V} (A:At σ W ((D,.list acc)::H)) (h:Reps W (raw.map wdD) acc) (ht:σ t=none) (hm:Rep W (omD w.m) mv) :
  At ((σ.set t (.tuple [.int w.k,.int w.l,.int w.n,mv])).set D (.list (acc++[.ref t]))) (W.set t (.tuple [.int w.k,.int w.l,.int w.n,mv])) ((D,.list (acc++[.ref t]))::H) ∧
  Reps (W.set t (.tuple [.int w.k,.int w.l,.int w.n,mv])) ((raw++[w]).map wdD) (acc++[.ref t])∧W.le (W.set t (.tuple [.int w.k,.int w.l,.int w.n,mv])):=by
 have L:=A.newle (o:=.tuple [.int w.k,.int w.l,.int w.n,mv]) ht
 refine ⟨(A.newF ht).upd,?_,L⟩
 rw [List.map_append]
 exact (h.mono L).snoc (rep_wd.mpr ⟨t,mv,rfl,Sto.set_same,hm.mono L⟩)
end
structure Raw (cnt:Int) (B:Int) (four:Bool) (N:Nat) (raw:List Wd):Prop where
 z:Zer raw
 ok:∀ w∈raw,WordOk B w
 inr:four=false→∀ w∈raw,inR cnt w
 len:raw.length≤N
theorem Raw.snoc {cnt B:Int} {four:Bool} {N:Nat} {raw:List Wd} {w:Wd} (h:Raw cnt B four N raw) (hk:w.k=1∨w.k=2) (hw:WordOk B w) (hi:four=false→inR cnt w):Raw cnt B four (N+1) (raw++[w]):=by
 refine ⟨h.z.snoc hk,fun u hu=>?_,fun hf u hu=>?_,by have:=h.len; simp; (revert this; lia)⟩
 ·rcases List.mem_append.mp hu with hu | hu
  ·exact h.ok u hu
  ·rw [List.mem_singleton] at hu; subst hu; exact hw
 ·rcases List.mem_append.mp hu with hu | hu
  ·exact h.inr hf u hu
  ·rw [List.mem_singleton] at hu; subst hu; exact hi hf
theorem Raw.le {cnt B:Int} {four:Bool} {N N':Nat} {raw:List Wd} (hn:N≤N') (h:Raw cnt B four N raw):Raw cnt B four N' raw:=⟨h.z,h.ok,h.inr,Nat.le_trans h.len hn⟩
structure SaidRes (cnt B what:Int) (said:List Wd):Prop where
 ord:Ord said
 ok:∀ w∈said,WordOk B w
 bad:what=4→badOf cnt said=true
 inr:what≠4→∀ w∈said,inR cnt w
 len:said.length≤8
 one:what=3→∃ w,said=[w]
theorem filt_len {α:Type} (p:α→Bool) (l:List α):(l.filter p).length+(l.filter fun a=>!p a).length=l.length:=by
 induction l with
 | nil=>rfl
 | cons a l ih =>
  rw [List.filter_cons,List.filter_cons]
  cases p a with
  | true=>exact (Nat.succ_add _ _).trans (congrArg Nat.succ ih)
  | false=>exact congrArg Nat.succ ih
theorem tv1 {tv:Loc} (h:tv.length=1):∃ t0,tv=[t0]:=len1 h
theorem tv2 {tv:Loc} (h:tv.length=2):∃ t0 t1,tv=[t0,t1]:=len2 h
section
variable {c:Ctx} {n:Nat} {σ W:Sto} {Q:KV} {R:Sto→Prop} {H:List (Addr×O)}
theorem comp_filt {Φ:Act} {m:Nat} {vs':Vars} {sc0:Scope} (r:Run Φ (m+1) vs' sc0) {M:Loc} {op:CmpOp} {P:Wd→Bool} {p1 p2 p3 p4 p5 p6 p7 p8 p9:Pos} {kc:Int} {k1 k2:Nat} {sc:Scope} {D:Addr} {vs:List V} {raw:List Wd} {X:List (Addr×O)} {Q:KV} {R:KL}
  (co:CompOk Φ false [Str.ofString "word"] sc []) (hb:behindInMarks op (.Constant (.int kc) k2 p4)=false)
  (hop:∀ (w:Wd) (Q:KV) (M:Loc) (R:KL) (σ':Sto) (Φ':Act),Q (.bool (P w)) σ'→∀ av bv,er av=.int w.k→er bv=.int kc→SV Φ' (compareOp op av bv) M σ' Q R)
  (hv:Var vs' M (Str.ofString "said") (.ref D)) (A:At σ W X) (hD:∀ {σ' W'},At σ' W' X→σ' D=some (.list vs)) (hr:Reps W (raw.map wdD) vs) (hz:raw.length≤10)
  (q:∀ σ' W' d svs,W.le W'→At σ' W' X→W' d=some (.list svs)→Reps W' ((raw.filter P).map wdD) svs→Q (.ref d) σ') :
  SE Φ (.ListComp (.Name (Str.ofString "word") p1) [⟨.Name (Str.ofString "word") p2,.Name (Str.ofString "said") p3,[.Compare (.Subscript (.Name (Str.ofString "word") p5) (.Constant (.int 0) k1 p6) p7) [op] [.Constant (.int kc) k2 p4] p8],0⟩] sc p9) M σ Q R:=by
 refine SE_comp_list (n:=m) (b:=false) (xs:=[Str.ofString "word"]) (cl:=[]) r.ok co rfl (by intros; rfl) ?_
 refine SE_nm r hv ?_
 refine ⟨D,vs,rfl,hD A,fun Φ' i=>?_⟩
 have r':=i.run r
 simp only [List.map_cons,List.map_nil] at r'
 have hcap:∀ {M:Loc},capM Φ false M=[]:=rfl
 rw [hcap]
 suffices comp:∀ (rest:List V) (done todo:List Wd) (acc:List V),raw=done++todo→Reps W (todo.map wdD) rest→Reps W ((done.filter P).map wdD) acc→CG Φ' _ _ _ (fun σ=>σ D=some (.list vs)) [] 1 _ rest acc σ from
  comp vs [] raw [] rfl hr rfl
 intro rest
 induction rest with
 | nil =>
  intro done todo acc g1 g2 g3
  have:=list_end g2
  subst this
  rw [List.append_nil] at g1
  subst g1
  refine ⟨hD A,fun d hd=>?_⟩
  exact q _ _ d acc (A.newle hd) (A.newF hd) Sto.set_same (g3.mono (A.newle hd))
 | cons u rest ih =>
  intro done todo acc g1 g2 g3
  obtain ⟨w,ra,rfl,hp,g2'⟩:=list_more g2
  obtain ⟨b,mv,rfl,hb1,hmv⟩:=rep_wd.mp hp
  refine ⟨hD A,?_,fun tv htv=>?_⟩
  ·have h1:=g3.length
   have h2:=congrArg List.length g1
   have h3:=List.length_filter_le P done
   simp only [List.length_append,List.length_map] at h1 h2
   (revert hz h3 h1 h2; lia)
  obtain ⟨x0,rfl⟩:=tv1 htv
  refine SG_name' r' (stK_ok (M:=[x0]) rfl) ?_
  refine ⟨[some (.ref b)],rfl,rfl,CT_one ?_⟩
  refine ST_cmp hb ?_
  refine E_sub ?_
  walk_at "go"
  refine ⟨.int w.k,.tuple (A.fz hb1) (by lia) (by lia) rfl,?_⟩
  walk_at "go"
  refine hop w _ _ _ _ _ ?_
  refine ⟨_,rfl,?_⟩
  cases hP:P w with
  | true =>
   try refine ite_pos (by rfl) ?_
   walk_at "s"
   refine ih (done++[w]) ra _ (by rw [g1]; simp) g2' ?_
   rw [List.filter_append,List.map_append,List.filter_cons,hP]
   exact g3.snoc hp
  | false =>
   refine if_F ?_
   refine ih (done++[w]) ra _ (by rw [g1]; simp) g2' ?_
   rw [List.filter_append,List.filter_cons,hP]
   simpa using g3
theorem ok_law_said (x:Cx c) (A:At σ W H) {what v t:Int} {a wa:Addr} {vs wvs:List V} {ws:List Wd} {wl:List (Int×Int)} {cnt:Nat} {B:Int} (ha:W a=some (.list vs)) (hr:Reps W (ws.map wdD) vs) (hw:∀ w∈ws,WordOk B w) (hst:∀ p∈stand ws,(0≤p.1∧p.1 < cnt)∧MtOk p.2∧p.2.s≤B)
  (hwa:(wa,O.list wvs)∈H) (hwr:Reps W (wl.map endD) wvs) (hwl:∀ p∈wl,0≤p.1∧p.1 < cnt) (hwz:wl.length≤7) (hz:ws.length≤64) (hv:0≤v) (hc:2≤cnt) (hc4:cnt≤4) (t0:0≤t) (t1:t≤40) (B0:60≤B) (B1:B≤900)
  (q:∀ σ' W' sa svs said,W.le W'→At σ' W' H→W' sa=some (.list svs)→Reps W' (said.map wdD) svs→SaidRes cnt (B+1) what said→Q (.ref sa) σ'):Call c (n+5) (.ref 628) [.int what,.int v,.ref a,.ref wa,.int cnt,.int t] σ Q R:=by
 let LL:=fun (x6 x7 x8 x9 x10:Option V)=>([some (.int what),some (.int v),some (.ref a),some (.ref wa),some (.int cnt),some (.int t),x6,x7,x8,x9,x10]:Loc)
 refine Call.go x (fn__law_said x) fun Φ r=>?_
 refine (let M0:Loc:=_; (?_:SS _ _ M0 _ _ _))
 have hwvl:wvs.length=wl.length:=by rw [hwr.length,List.length_map]
 walk_at "go"
 refine ct_ ?_
 by_cases h5:what=5
 ·-- [(1,level,number,None) for level,number in wilds]
  refine if_t h5 ?_
  walk_at "s"
  walk_at "s"
  refine SE_comp_list (n:=n+3) (b:=false) (xs:=[Str.ofString "level",Str.ofString "number"]) (cl:=[]) r.ok (by exact .plain) rfl (by intros; rfl) ?_
  walk_at "go"
  refine ⟨wa,wvs,rfl,A.get hwa,fun Φ' i=>?_⟩
  have r':=i.run r.toRun
  simp only [List.map_cons,List.map_nil] at r'
  have hcap:∀ {M:Loc},capM Φ false M=[]:=rfl
  rw [hcap]
  suffices comp:∀ (rest:List V) (done todo:List (Int×Int)) (acc:List V) (σ₁ W₁:Sto),wl=done++todo→Reps W (todo.map endD) rest→W.le W₁→Reps W₁ ((done.map fun p=>(⟨1,p.1,p.2,none⟩:Wd)).map wdD) acc→At σ₁ W₁ H→CG Φ' _ _ [] (fun σ=>σ wa=some (.list wvs)) [] 2 _ rest acc σ₁ from
   comp wvs [] wl [] σ W rfl hwr (Sto.le_refl _) rfl A
  intro rest
  induction rest with
  | nil =>
   intro done todo acc σ₁ W₁ g1 g2 hW g3 A1
   have:=list_end g2
   subst this
   rw [List.append_nil] at g1
   subst g1
   refine ⟨A1.get hwa,fun d hd=>?_⟩
   have A2:=A1.newF (o:=.list acc) hd
   have L2:=A1.newle (o:=.list acc) hd
   refine q _ _ d acc _ (hW.trans' L2) A2 Sto.set_same (g3.mono L2) ⟨⟨[],_,[],by simp; rfl,by simp,fun w hw=>?_,by simp⟩,fun w hw=>?_,fun h=>absurd h (by (revert h5; lia)),fun _ w hw=>?_,by simp; (revert hwz hwvl; lia),fun h=>absurd h (by (revert h5; lia))⟩
   ·obtain ⟨p,_,rfl⟩:=List.mem_map.mp hw; rfl
   ·obtain ⟨p,hp,rfl⟩:=List.mem_map.mp hw
    have:=hwl p hp
    exact ⟨.inr (.inl rfl),fun e=>(by cases e),fun e=>(by cases e),by simp only; (revert hc hc4 this; lia)⟩
   ·obtain ⟨p,hp,rfl⟩:=List.mem_map.mp hw
    exact hwl p hp
  | cons u rest ih =>
   intro done todo acc σ₁ W₁ g1 g2 hW g3 A1
   obtain ⟨p,ra,rfl,hp,g2'⟩:=list_more g2
   obtain ⟨pa,rfl,hpa⟩:=rep_end.mp hp
   refine ⟨A1.get hwa,?_,fun tv htv=>?_⟩
   ·have:=g3.length
    have h2:=congrArg List.length g1
    simp only [List.length_append,List.length_map] at this h2
    (revert hwz hwvl this h2; lia)
   obtain ⟨x0,x1,rfl⟩:=tv2 htv
   refine SG_t (M:=[x0,x1]) r' (A1.fz (hW _ _ hpa)) rfl ?_
   refine ⟨[some (.int p.1),some (.int p.2)],rfl,rfl,CT_nil ?_⟩
   refine SE_tuple (by simp) ?_
   walk_at "go"
   refine ⟨by simp,fun d hd=>?_⟩
   have L1:=A1.newle (o:=.tuple [.int 1,.int p.1,.int p.2,.none]) hd
   refine ih (done++[p]) ra _ _ _ (by rw [g1]; simp) g2' (hW.trans' L1) ?_ (A1.newF hd)
   rw [List.map_append,List.map_append]
   exact (g3.mono L1).snoc (rep_wd.mpr ⟨d,.none,rfl,Sto.set_same,rfl⟩)
 refine if_f h5 ?_
 walk_at "s"
 walk_at "go"
 refine ct_ ?_
 by_cases h3:what=3
 ·refine if_t h3 ?_
  walk_at "s"
  refine SX_unpack r.ok rfl rfl ?_
  walk_at "go"
  refine ok_law_wild r.cx A (by (revert hc hc4; lia)) (by (revert hc hc4; lia)) fun σ₁ W₁ la L1 A1 hla=>?_
  obtain ⟨hwr1,hwr2,hwr3⟩:=wild_ok (t:=t) (cnt:=cnt) hv (by (revert hc hc4; lia)) (by (revert hc hc4; lia)) t0 (by (revert t0 t1; lia))
  generalize wild v cnt t=lm at hla hwr1 hwr2 hwr3
  obtain ⟨b,mv,hb1,hb,hmv⟩:=rep_lm.mp hla
  cases hb1
  rw [r.vars]
  refine ⟨_,_,_,rfl,A1.fz hb,stsK_ok rfl,?_⟩
  obtain ⟨ma,mlo,mhi,rfl,hma,hmlo,hmhi⟩:=rep_mt.mp hmv
  walk_at "s"
  walk_at "s"
  refine SE_list ?_
  walk_at "go"
  refine SE_tuple (by simp) ?_
  walk_at "go"
  refine E_sub ?_
  walk_at "go"
  refine ⟨.int lm.2.n,.tuple (A1.fz hma) (by lia) (by lia) rfl,?_⟩
  walk_at "go"
  refine ⟨by simp,fun d hd=>?_⟩
  have A2:=A1.newF (o:=.tuple [.int 2,.int lm.1,.int lm.2.n,.ref ma]) hd
  have L2:=A1.newle (o:=.tuple [.int 2,.int lm.1,.int lm.2.n,.ref ma]) hd
  have hd2:(W₁.set d (.tuple [.int 2,.int lm.1,.int lm.2.n,.ref ma])) d=some (.tuple [.int 2,.int lm.1,.int lm.2.n,.ref ma]):=Sto.set_same
  walk_at "go"
  refine ⟨by simp,fun d2 hd3=>?_⟩
  have A3:=A2.newF (o:=.list [.ref d]) hd3
  have L3:=A2.newle (o:=.list [.ref d]) hd3
  refine q _ _ d2 [.ref d] [⟨2,lm.1,lm.2.n,some lm.2⟩] (L1.trans' (L2.trans' L3)) A3 Sto.set_same ⟨_,_,rfl,rep_wd.mpr ⟨d,_,rfl,L3 _ _ hd2,hmv.mono (L2.trans' L3)⟩,rfl⟩ ⟨⟨[],[],_,rfl,by simp,by simp,fun w hw=>by rw [List.mem_singleton] at hw; subst hw; rfl⟩,fun w hw=>?_,fun h=>absurd h (by (revert h3; lia)),fun _ w hw=>?_,by simp,fun _=>⟨_,rfl⟩⟩
  ·rw [List.mem_singleton] at hw; subst hw
   exact ⟨.inr (.inr rfl),fun _=>⟨_,rfl,hwr2,rfl,by (revert B0 B1 hwr3; lia)⟩,fun e=>(by cases e),by simp only; (revert hc hc4 hwr1; lia)⟩
  ·rw [List.mem_singleton] at hw; subst hw
   exact hwr1
 refine if_f h3 ?_
 walk_at "s"
 walk_at "s"
 walk_at "s"
 refine SE_list ?_
 walk_at "go"
 refine ⟨by simp,fun D hD=>?_⟩
 have A1:=A.new (o:=.list []) hD
 refine (let M1:Loc:=_; st_ (M':=M1) rfl ?_)
 generalize σ.set D (.list [])=σ₁ at A1
 -- what is known of the words so far
 let St:Bool→Nat→Sto→Prop:=fun four N σ'=>∃ W' acc raw,W.le W'∧At σ' W' ((D,.list acc)::H)∧Reps W' (raw.map wdD) acc∧Raw cnt (B+1) four N raw∧(four=true→∃ w∈raw,¬ inR cnt w)
 have rawlen:∀ {W':Sto} {acc:List V} {raw:List Wd} {four:Bool} {N:Nat},Reps W' (raw.map wdD) acc→Raw cnt (B+1) four N raw→N≤1000→acc.length < 1000000:=fun g1 g2 g3=>by
  have h1:=g1.length
  rw [List.length_map] at h1
  have h2:=g2.len
  (revert h1 h2 g3; lia)
 -- if v%7 == 4
 let F1:KF:=fun f M' σ'=>f=.next∧M'=(LL none none (some (.ref D)) none none)∧St false 1 σ'
 refine SS_cons (SX.mono (F:=F1) ?_ ?_)
 ·walk_at "s"
  walk_at "go"
  refine mod_ (by lia) ?_
  walk_at "go"
  refine ct_ ?_
  by_cases h7:v%7=4
  ·refine if_t h7 ?_
   walk_at "s"
   refine X_ex ?_
   refine E_app ?_
   walk_at "go"
   refine ⟨D,[],rfl,A1.get (.head _),?_⟩
   walk_at "go"
   refine SE_tuple (by simp) ?_
   walk_at "go"
   refine ⟨by simp,fun d hd=>?_⟩
   obtain ⟨A2,h2,L2⟩:=push_wd (w:=⟨0,0,0,none⟩) (raw:=[]) A1 rfl hd (by rfl)
   walk_at "go"
   have A1':=A1.newF (o:=.tuple [.int 0,.int 0,.int 0,.none]) hd
   refine l_append (A1'.get (.head _)) (by simp) ?_
   walk_at "s"
   refine ⟨rfl,rfl,_,_,_,L2,A2,h2,⟨⟨[⟨0,0,0,none⟩],[],by simp,fun w hw=>?_,by simp⟩,fun w hw=>?_,fun _ w hw=>?_,by simp⟩,fun h=>by cases h⟩
   ·rw [List.mem_singleton] at hw; subst hw; rfl
   ·rw [List.nil_append,List.mem_singleton] at hw; subst hw
    exact ⟨.inl rfl,fun e=>(by cases e),fun _=>rfl,by simp⟩
   ·rw [List.nil_append,List.mem_singleton] at hw; subst hw
    exact ⟨by simp,by simp only; (revert hc hc4; lia)⟩
  ·refine if_f h7 ?_
   walk_at "s"
   exact ⟨rfl,rfl,W,[],[],Sto.le_refl _,A1,rfl,⟨⟨[],[],rfl,by simp,by simp⟩,by simp,by simp,by simp⟩,fun h=>by cases h⟩
 rintro f M' σ₂ ⟨rfl,rfl,W₂,acc,raw,L2,A2,h2,hraw,_⟩
 clear A1
 -- stand=_law_stand(words)
 walk_at "go"
 refine ok_law_stand r.cx A2 (L2 _ _ ha) (hr.mono L2) (fun w hw'=>(hw w hw').wd) (by (revert hz; lia)) fun σ₃ W₃ ts us L3 A3 hts hus=>?_
 refine (let M1:Loc:=_; st_ (M':=M1) rfl ?_)
 have h2:=h2.mono L3
 have hstl:(stand ws).length≤64:=by have:=stand_length ws; (revert hz this; lia)
 have husl:us.length=(stand ws).length:=by rw [hus.length,List.length_map]
 have LW3:W.le W₃:=L2.trans' L3
 clear A2
 -- if v%2 == 0 and len(stand) > 0
 let F1:KF:=fun f M' σ'=>f=.next∧∃ o1 o2,M'=(LL o1 o2 (some (.ref D)) (some (.ref ts)) none)∧St false 3 σ'
 refine SS_cons (SX.mono (F:=F1) ?_ ?_)
 ·have skip:St false 3 σ₃:=⟨W₃,acc,raw,LW3,A3,h2,hraw.le (by lia),fun h=>by cases h⟩
  walk_at "go"
  refine mod_ (by lia) ?_
  walk_at "go"
  refine ct_ ?_
  by_cases he:v%2=0
  case neg =>
   refine if_f he ?_
   refine if_F ?_
   walk_at "go"
   exact ⟨rfl,none,none,rfl,skip⟩
  refine if_t he ?_
  walk_at "go"
  refine b_len_list (A3.fz hts) (by (revert hstl husl; lia)) ?_
  walk_at "go"
  refine ct_ ?_
  rw [husl]
  by_cases hp:0 < (stand ws).length
  case neg =>
   refine ite_neg (by simpa using hp) ?_
   refine if_F ?_
   walk_at "go"
   exact ⟨rfl,none,none,rfl,skip⟩
  refine ite_pos (by simpa using hp) ?_
  walk_at "s"
  try refine ite_pos (by rfl) ?_
  have e1:=Int.emod_nonneg (v / 2) (show ((stand ws).length:Int)≠0 by (revert hstl husl hp; lia))
  have e2:=Int.emod_lt_of_pos (v / 2) (show 0 < ((stand ws).length:Int) by (revert hstl husl hp; lia))
  obtain ⟨ix,hix⟩:∃ ix:Nat,v / 2%((stand ws).length:Int)=ix:=⟨(v / 2%((stand ws).length:Int)).toNat,by (revert e1; lia)⟩
  have hil:ix < (stand ws).length:=by (revert husl e2 hix; lia)
  obtain ⟨uv,euv,ruv⟩:=hus.at (i:=ix) (x:=lmD (stand ws)[ix]) (by rw [List.getElem?_map,List.getElem?_eq_getElem hil]; rfl)
  obtain ⟨hs1,hs2,hs3⟩:=hst _ (List.getElem_mem hil)
  generalize (stand ws)[ix]=lm at ruv hs1 hs2 hs3
  obtain ⟨b,mv,rfl,hb,hmv⟩:=rep_lm.mp ruv
  obtain ⟨ma,mlo,mhi,rfl,hma,hmlo,hmhi⟩:=rep_mt.mp hmv
  walk_at "s"
  refine SX_unpack r.ok rfl rfl ?_
  refine E_sub ?_
  walk_at "go"
  refine bop_int ?_ (by simp)
  dsimp only [bop]
  refine ⟨by lia,?_⟩
  walk_at "go"
  refine b_len_list (A3.fz hts) (by (revert hstl husl hp; lia)) ?_
  rw [husl]
  refine bop_int ?_ (by simp)
  refine ⟨by (revert hstl husl hp; lia),?_⟩
  rw [hix]
  refine ⟨.ref b,.list (A3.fz hts) (by (revert e1 hix; lia)) (by (revert hstl husl hp e2 hix; lia)) (by simpa using euv),?_⟩
  rw [r.vars]
  refine ⟨b,_,_,rfl,A3.fz hb,stsK_ok rfl,?_⟩
  have metaI:∀ {M:Loc} {kk:Int} {k1:Nat} {p1 p2 p3:Pos} {u:V} {Q':KV} {R':KL} {σ₄:Sto} {o:Option V},W₃.le σ₄→0≤kk→kk < 4→([V.int lm.2.n,V.int lm.2.s,V.ref mlo,V.ref mhi]:List V)[kk.toNat]?=some u→Q' u σ₄ →
    SE Φ (.Subscript (.Name (Str.ofString "meta") p1) (.Constant (.int kk) k1 p2) p3) (LL (some (.int lm.1)) (some (.ref ma)) (some (.ref D)) (some (.ref ts)) o) σ₄ Q' R':=by
   intro M kk k1 p1 p2 p3 u Q' R' σ₄ o hσ h0 h1 hv hq
   refine E_sub ?_
   walk_at "go"
   exact ⟨_,.tuple (hσ _ _ hma) h0 (by (revert h0 h1; lia)) hv,hq⟩
  walk_at "s"
  refine X_ex ?_
  refine E_app ?_
  walk_at "go"
  refine ⟨D,acc,rfl,A3.get (.head _),?_⟩
  walk_at "go"
  refine SE_tuple (by simp) ?_
  walk_at "go"
  refine metaI (M:=[]) A3.le (u:=.int lm.2.n) (by lia) (by lia) rfl ?_
  walk_at "go"
  refine ⟨by simp,fun d hd=>?_⟩
  obtain ⟨A4,h4,L4⟩:=push_wd (w:=⟨1,lm.1,lm.2.n,none⟩) A3 h2 hd (by rfl)
  walk_at "go"
  have A3':=A3.newF (o:=.tuple [.int 1,.int lm.1,.int lm.2.n,.none]) hd
  refine l_append (A3'.get (.head _)) (rawlen h2 hraw (by lia)) ?_
  have hraw4:=hraw.snoc (w:=⟨1,lm.1,lm.2.n,none⟩) (.inl rfl) ⟨.inr (.inl rfl),fun e=>(by cases e),fun e=>(by cases e),by simp only; (revert hc hc4 hs1; lia)⟩ (fun _=>hs1)
  have hmW:(W₃.set d (.tuple [.int 1,.int lm.1,.int lm.2.n,.none])).le ((σ₃.set d (.tuple [.int 1,.int lm.1,.int lm.2.n,.none])).set D (.list (acc++[.ref d]))):=A4.le
  generalize (σ₃.set d (.tuple [.int 1,.int lm.1,.int lm.2.n,.none])).set D (.list (acc++[.ref d]))=σ₄ at A4 hmW
  try simp only at A4 h4 L4
  generalize W₃.set d (.tuple [.int 1,.int lm.1,.int lm.2.n,.none])=W₄ at A4 h4 L4 hmW
  have LW4:W.le W₄:=LW3.trans' L4
  walk_at "go"
  refine div_ (by lia) ?_
  walk_at "go"
  refine mod_ (by lia) ?_
  walk_at "go"
  refine ct_ ?_
  by_cases h43:v / 4%3=0
  case neg =>
   refine if_f h43 ?_
   walk_at "s"
   walk_at "s"
   exact ⟨rfl,_,_,rfl,W₄,_,_,LW4,A4,h4,hraw4.le (by lia),fun h=>by cases h⟩
  refine if_t h43 ?_
  walk_at "s"
  refine X_ex ?_
  refine E_app ?_
  walk_at "go"
  refine ⟨D,_,rfl,A4.get (.head _),?_⟩
  walk_at "go"
  refine SE_tuple (by simp) ?_
  walk_at "go"
  refine metaI (M:=[]) (L4.trans' hmW) (u:=.int lm.2.n) (by lia) (by lia) rfl ?_
  walk_at "go"
  refine SE_tuple (by simp) ?_
  walk_at "go"
  refine metaI (M:=[]) (L4.trans' hmW) (u:=.int lm.2.n) (by lia) (by lia) rfl ?_
  walk_at "s"
  walk_at "s"
  refine metaI (M:=[]) (L4.trans' hmW) (u:=.int lm.2.s) (by lia) (by lia) rfl ?_
  walk_at "go"
  refine bo_ ?_
  walk_at "go"
  refine metaI (M:=[]) (L4.trans' hmW) (u:=.ref mlo) (by lia) (by lia) rfl ?_
  walk_at "go"
  refine metaI (M:=[]) (L4.trans' hmW) (u:=.ref mhi) (by lia) (by lia) rfl ?_
  walk_at "go"
  refine ⟨by simp,fun nm hnm=>?_⟩
  have A5:=A4.newF (o:=.tuple [.int lm.2.n,.int (lm.2.s+1),.ref mlo,.ref mhi]) hnm
  have L5:=A4.newle (o:=.tuple [.int lm.2.n,.int (lm.2.s+1),.ref mlo,.ref mhi]) hnm
  have hnm2:Rep (W₄.set nm (.tuple [.int lm.2.n,.int (lm.2.s+1),.ref mlo,.ref mhi])) (mtD ⟨lm.2.n,lm.2.s+1,lm.2.lo,lm.2.hi⟩) (.ref nm):=rep_mt.mpr ⟨nm,mlo,mhi,rfl,Sto.set_same,(L4.trans' L5) _ _ hmlo,(L4.trans' L5) _ _ hmhi⟩
  walk_at "go"
  refine ⟨by simp,fun d2 hd2=>?_⟩
  obtain ⟨A6,h6,L6⟩:=push_wd (w:=⟨2,lm.1,lm.2.n,some ⟨lm.2.n,lm.2.s+1,lm.2.lo,lm.2.hi⟩⟩) A5 (h4.mono L5) hd2 hnm2
  walk_at "go"
  have A5':=A5.newF (o:=.tuple [.int 2,.int lm.1,.int lm.2.n,.ref nm]) hd2
  refine l_append (A5'.get (.head _)) (rawlen h4 hraw4 (by lia)) ?_
  have hraw6:=hraw4.snoc (w:=⟨2,lm.1,lm.2.n,some ⟨lm.2.n,lm.2.s+1,lm.2.lo,lm.2.hi⟩⟩) (.inr rfl) ⟨.inr (.inr rfl),fun _=>⟨_,rfl,⟨hs2.lo,hs2.hi,hs2.n0,hs2.n1,by have:=hs2.s0; simp only; (revert this; lia),by simp only; (revert B0 B1 hs3; lia)⟩,rfl,by simp only; (revert hs3; lia)⟩,fun e=>(by cases e),by simp only; (revert hc hc4 hs1; lia)⟩ (fun _=>hs1)
  walk_at "s"
  walk_at "s"
  exact ⟨rfl,_,_,rfl,_,_,_,LW4.trans' (L5.trans' L6),A6,h6,hraw6.le (by lia),fun h=>by cases h⟩
 rintro f M' σ₄ ⟨rfl,o1,o2,rfl,W₄,acc,raw,L4,A4,h4,hraw,_⟩
 clear A3 h2
 -- if what == 4
 refine SS_cons (SX.mono (F:=fun f M' σ'=>f=.next∧∃ o1 o2,M'=(LL o1 o2 (some (.ref D)) (some (.ref ts)) none)∧St (decide (what=4)) 5 σ') ?_ ?_)
 ·walk_at "s"
  walk_at "go"
  refine ct_ ?_
  by_cases h4w:what=4
  case neg =>
   refine if_f h4w ?_
   walk_at "s"
   refine ⟨rfl,_,_,rfl,W₄,acc,raw,L4,A4,h4,?_,fun h=>absurd (by simpa using h) h4w⟩
   rw [show decide (what=4)=false by simpa using h4w]
   exact hraw.le (by lia)
  refine if_t h4w ?_
  rw [show decide (what=4)=true by simpa using h4w]
  have hraw:Raw cnt (B+1) true 3 raw:=⟨hraw.z,hraw.ok,fun h=>(by cases h),hraw.len⟩
  -- level=count if v // 7%2 == 0 else -1
  let F1:KF:=fun f M' σ'=>f=.next∧∃ lv:Int,(lv=cnt∨lv=-1)∧M'=(LL (some (.int lv)) o2 (some (.ref D)) (some (.ref ts)) none)∧σ'=σ₄
  refine SS_cons (SX.mono (F:=F1) ?_ ?_)
  ·walk_at "s"
   walk_at "go"
   refine div_ (by lia) ?_
   walk_at "go"
   refine mod_ (by lia) ?_
   walk_at "go"
   refine ct_ ?_
   by_cases h7:v / 7%2=0
   ·refine if_t h7 ?_
    walk_at "go"
    refine ⟨_,stK_ok rfl,?_⟩
    exact ⟨rfl,_,.inl rfl,rfl,rfl⟩
   ·refine if_f h7 ?_
    walk_at "go"
    refine ⟨_,rfl,?_⟩
    refine ⟨_,stK_ok rfl,?_⟩
    exact ⟨rfl,_,.inr rfl,rfl,rfl⟩
  rintro f M' σ' ⟨rfl,lv,hlv,rfl,rfl⟩
  have hlvb:lv.natAbs < 1000:=by (revert hc hc4 hlv; lia)
  have hlvn:∀ w:Wd,w.l=lv→¬ inR cnt w:=fun w hw h=>by unfold inR at h; (revert hlv hlvb hw h; lia)
  -- the bad word
  let F1:KF:=fun f M' σ'=>f=.next∧M'=(LL (some (.int lv)) o2 (some (.ref D)) (some (.ref ts)) none)∧St true 4 σ'
  refine SS_cons (SX.mono (F:=F1) ?_ ?_)
  ·walk_at "s"
   walk_at "go"
   refine div_ (by lia) ?_
   walk_at "go"
   refine mod_ (by lia) ?_
   walk_at "go"
   refine ct_ ?_
   by_cases h14:v / 14%2=0
   ·refine if_t h14 ?_
    walk_at "s"
    refine X_ex ?_
    refine E_app ?_
    walk_at "go"
    refine ⟨D,_,rfl,A4.get (.head _),?_⟩
    walk_at "go"
    refine SE_tuple (by simp) ?_
    walk_at "go"
    refine ⟨by simp,fun d hd=>?_⟩
    obtain ⟨A5,h5',L5⟩:=push_wd (w:=⟨1,lv,10,none⟩) A4 h4 hd (by rfl)
    walk_at "go"
    have A5':=A4.newF (o:=.tuple [.int 1,.int lv,.int 10,.none]) hd
    refine l_append (A5'.get (.head _)) (rawlen h4 hraw (by lia)) ?_
    walk_at "s"
    refine ⟨rfl,rfl,_,_,_,L4.trans' L5,A5,h5',hraw.snoc (w:=⟨1,lv,10,none⟩) (.inl rfl) ⟨.inr (.inl rfl),fun e=>(by cases e),fun e=>(by cases e),hlvb⟩ (fun h=>(by cases h)),fun _=>⟨⟨1,lv,10,none⟩,by simp,hlvn _ rfl⟩⟩
   ·refine if_f h14 ?_
    walk_at "s"
    refine X_ex ?_
    refine E_app ?_
    walk_at "go"
    refine ⟨D,_,rfl,A4.get (.head _),?_⟩
    walk_at "go"
    refine SE_tuple (by simp) ?_
    walk_at "go"
    refine SE_tuple (by simp) ?_
    walk_at "go"
    refine SE_tuple (by simp) ?_
    walk_at "go"
    refine ⟨_,rfl,?_⟩
    walk_at "go"
    refine ⟨by simp,fun a1 g1=>?_⟩
    walk_at "go"
    refine SE_tuple (by simp) ?_
    walk_at "go"
    refine ⟨_,rfl,?_⟩
    walk_at "go"
    refine ⟨by simp,fun a2 g2=>?_⟩
    walk_at "go"
    refine ⟨by simp,fun a3 g3=>?_⟩
    have A5:=((A4.newF (o:=.tuple [.int 0,.int (-9)]) g1).newF (o:=.tuple [.int 0,.int (-1)]) g2).newF (o:=.tuple [.int 60,.int 1,.ref a1,.ref a2]) g3
    have L5:=(A4.newle (o:=.tuple [.int 0,.int (-9)]) g1).trans' (((A4.newF (o:=.tuple [.int 0,.int (-9)]) g1).newle (o:=.tuple [.int 0,.int (-1)]) g2).trans' (((A4.newF (o:=.tuple [.int 0,.int (-9)]) g1).newF (o:=.tuple [.int 0,.int (-1)]) g2).newle (o:=.tuple [.int 60,.int 1,.ref a1,.ref a2]) g3))
    have hne1:a1≠a2:=fun e=>by rw [e,Sto.set_same] at g2; cases g2
    have hne2:a2≠a3:=fun e=>by rw [e,Sto.set_same] at g3; cases g3
    have hne3:a1≠a3:=fun e=>by rw [e,Sto.set_ne (fun q=>hne1 (e.trans q)),Sto.set_same] at g3; cases g3
    have hm3:Rep (((W₄.set a1 (.tuple [.int 0,.int (-9)])).set a2 (.tuple [.int 0,.int (-1)])).set a3 (.tuple [.int 60,.int 1,.ref a1,.ref a2])) (mtD ⟨60,1,(0,-9),(0,-1)⟩) (.ref a3):=rep_mt.mpr ⟨a3,a1,a2,rfl,Sto.set_same,by rw [Sto.set_ne hne3,Sto.set_ne hne1,Sto.set_same],by rw [Sto.set_ne hne2,Sto.set_same]⟩
    walk_at "go"
    refine ⟨by simp,fun d hd=>?_⟩
    obtain ⟨A6,h6,L6⟩:=push_wd (w:=⟨2,lv,60,some ⟨60,1,(0,-9),(0,-1)⟩⟩) A5 (h4.mono L5) hd hm3
    walk_at "go"
    have A5':=A5.newF (o:=.tuple [.int 2,.int lv,.int 60,.ref a3]) hd
    refine l_append (A5'.get (.head _)) (rawlen h4 hraw (by lia)) ?_
    walk_at "s"
    refine ⟨rfl,rfl,_,_,_,L4.trans' (L5.trans' L6),A6,h6,hraw.snoc (w:=⟨2,lv,60,some ⟨60,1,(0,-9),(0,-1)⟩⟩) (.inr rfl) ⟨.inr (.inr rfl),fun _=>⟨_,rfl,⟨⟨by decide,by decide,by decide,by decide⟩,⟨by decide,by decide,by decide,by decide⟩,by decide,by decide,by decide,by decide⟩,rfl,by simp only; (revert B0 B1; lia)⟩,fun e=>(by cases e),hlvb⟩ (fun h=>(by cases h)),fun _=>⟨⟨2,lv,60,some ⟨60,1,(0,-9),(0,-1)⟩⟩,by simp,hlvn _ rfl⟩⟩
  rintro f M' σ₅ ⟨rfl,rfl,W₅,acc5,raw5,L5,A5,h5',hraw5,hbad⟩
  clear A4 h4
  walk_at "go"
  refine div_ (by lia) ?_
  walk_at "go"
  refine mod_ (by lia) ?_
  walk_at "go"
  refine ct_ ?_
  by_cases h28:v / 28%2=0
  ·refine if_t h28 ?_
   walk_at "s"
   refine X_ex ?_
   refine E_app ?_
   walk_at "go"
   refine ⟨D,_,rfl,A5.get (.head _),?_⟩
   walk_at "go"
   refine SE_tuple (by simp) ?_
   walk_at "go"
   refine mod_ (by lia) ?_
   refine bo_ ?_
   walk_at "go"
   refine ⟨by simp,fun d hd=>?_⟩
   obtain ⟨A6,h6,L6⟩:=push_wd (w:=⟨1,1,10+v%4,none⟩) A5 h5' hd (by rfl)
   walk_at "go"
   have A5':=A5.newF (o:=.tuple [.int 1,.int 1,.int (10+v%4),.none]) hd
   refine l_append (A5'.get (.head _)) (rawlen h5' hraw5 (by lia)) ?_
   walk_at "s"
   walk_at "s"
   obtain ⟨bw,hbw,hbn⟩:=hbad rfl
   exact ⟨rfl,_,_,rfl,_,_,_,L5.trans' L6,A6,h6,hraw5.snoc (w:=⟨1,1,10+v%4,none⟩) (.inl rfl) ⟨.inr (.inl rfl),fun e=>(by cases e),fun e=>(by cases e),by simp⟩ (fun h=>(by cases h)),fun _=>⟨bw,List.mem_append_left _ hbw,hbn⟩⟩
  ·refine if_f h28 ?_
   walk_at "s"
   walk_at "s"
   exact ⟨rfl,_,_,rfl,W₅,_,_,L5,A5,h5',hraw5.le (by lia),hbad⟩
 rintro f M' σ₅ ⟨rfl,o1',o2',rfl,W₅,acc5,raw5,L5,A5,h5',hraw5,hbad⟩
 clear A4 h4 hraw L4
 -- the tidy files
 walk_at "s"
 refine X_forr ?_
 walk_at "go"
 refine div_ (by lia) ?_
 walk_at "go"
 refine mod_ (by lia) ?_
 refine bo_ ?_
 obtain ⟨nk,hnk⟩:∃ nk:Nat,1+v / 3%2=nk:=⟨(1+v / 3%2).toNat,by lia⟩
 rw [hnk]
 refine ⟨nk,rfl,by (revert hnk; lia),by (revert hnk; lia),?_⟩
 have hnk2:nk≤2:=by (revert hnk; lia)
 suffices main:∀ (k j:Nat) (W₆ σ₆:Sto) (acc6:List V) (raw6:List Wd) (o1 o2 o5:Option V),nk-j=k→j≤nk→W.le W₆→At σ₆ W₆ ((D,.list acc6)::H)→Reps W₆ (raw6.map wdD) acc6→Raw cnt (B+1) (decide (what=4)) (5+j) raw6→(decide (what=4)=true→∃ w∈raw6,¬ inR cnt w) →
   ForG Φ _ _ (fun _=>True) _ _ (rng j nk) (LL o1 o2 (some (.ref D)) (some (.ref ts)) o5) σ₆ from
  main _ 0 W₅ σ₅ acc5 raw5 o1' o2' none rfl (by (revert hnk; lia)) L5 A5 h5' hraw5 hbad
 clear A5 h5' hraw5 hbad L5
 intro k
 induction k with
 | succ k ih =>
  intro j W₆ σ₆ acc6 raw6 o1 o2 o5 hk hj L6 A6 h6 hraw6 hbad6
  rw [rng_cons (by (revert hk hj; lia))]
  refine ⟨trivial,?_⟩
  refine (let M1:Loc:=_; let F1:KF:=_; SG_n (M':=M1) (K:=kSb _ _ F1 _) r.toRun rfl ?_)
  walk_at "s"
  refine SX_unpack r.ok rfl rfl ?_
  walk_at "go"
  refine mul_ (.of_left (by decide)) ?_
  refine bo_ ?_
  refine bop_int (b:=3+4*(j:Int)) ?_ (by intro _; (revert hnk hj; lia))
  refine ⟨by lia,?_⟩
  walk_at "go"
  refine mul_ (.of_left (by decide)) ?_
  walk_at "go"
  refine bo_ ?_
  have hq0:0≤v / (3+4*(j:Int)):=Int.ediv_nonneg hv (by lia)
  walk_at "go"
  refine ok_law_tidy (cnt:=(cnt:Int)) r.cx A6 (by (revert hc hc4; lia)) (by (revert hc hc4; lia)) fun σ₇ W₇ la L7 A7 hla=>?_
  obtain ⟨hwr1,hwr2,hwr3⟩:=tidy_ok (v:=v / (3+4*(j:Int))) (cnt:=cnt) (t:=2*t+j) hq0 (by (revert hc hc4; lia)) (by (revert hc hc4; lia)) (by (revert t0 t1; lia)) (by (revert t0 t1 hnk hj; lia))
  generalize tidy (v / (3+4*(j:Int))) cnt (2*t+j)=lm at hla hwr1 hwr2 hwr3
  obtain ⟨b,mv,hb1,hb,hmv⟩:=rep_lm.mp hla
  cases hb1
  rw [r.vars]
  refine ⟨_,_,_,rfl,A7.fz hb,stsK_ok rfl,?_⟩
  obtain ⟨ma,mlo,mhi,rfl,hma,hmlo,hmhi⟩:=rep_mt.mp hmv
  walk_at "s"
  refine X_ex ?_
  refine E_app ?_
  walk_at "go"
  refine ⟨D,_,rfl,A7.get (.head _),?_⟩
  walk_at "go"
  refine SE_tuple (by simp) ?_
  walk_at "go"
  refine E_sub ?_
  walk_at "go"
  refine ⟨.int lm.2.n,.tuple (A7.fz hma) (by lia) (by lia) rfl,?_⟩
  walk_at "go"
  refine ⟨by simp,fun d hd=>?_⟩
  obtain ⟨A8,h8,L8⟩:=push_wd (w:=⟨2,lm.1,lm.2.n,some lm.2⟩) A7 (h6.mono L7) hd hmv
  walk_at "go"
  have A7':=A7.newF (o:=.tuple [.int 2,.int lm.1,.int lm.2.n,.ref ma]) hd
  refine l_append (A7'.get (.head _)) (rawlen h6 hraw6 (by (revert hnk hj; lia))) ?_
  walk_at "s"
  have:=ih (j+1) _ _ _ (raw6++[⟨2,lm.1,lm.2.n,some lm.2⟩]) (some (.int lm.1)) (some (.ref ma)) (some (.int j)) (by (revert hk hj; lia)) (by (revert hk hj; lia)) (L6.trans' (L7.trans' L8)) A8 h8 (hraw6.snoc (w:=⟨2,lm.1,lm.2.n,some lm.2⟩) (.inr rfl) ⟨.inr (.inr rfl),fun _=>⟨lm.2,rfl,hwr2,rfl,by (revert B0 B1 hwr3; lia)⟩,fun e=>(by cases e),by simp only; (revert hc hc4 hwr1; lia)⟩ (fun _=>hwr1)) (fun h=>by
   obtain ⟨bw,hbw,hbn⟩:=hbad6 h
   exact ⟨bw,List.mem_append_left _ hbw,hbn⟩)
  rw [Int.natCast_succ] at this
  exact this
 | zero =>
 intro j W₆ σ₆ acc6 raw6 o1 o2 o5 hk hj L6 A6 h6 hraw6 hbad6
 have hjn:j=nk:=by (revert hk hj; lia)
 subst hjn
 rw [rng_nil (by lia)]
 refine ⟨trivial,?_⟩
 have hacl:acc6.length≤10:=by
  rw [h6.length,List.length_map]
  have:=hraw6.len
  (revert hnk this; lia)
 -- the two filters
 have L6':W.le W₆:=L6
 have hrl:raw6.length≤10:=by have:=hraw6.len; (revert hnk this; lia)
 walk_at "s"
 walk_at "s"
 walk_at "s"
 refine comp_filt r.toRun (vs:=acc6) (P:=fun w=>decide (w.k < 2)) (D:=D) (by exact .plain) rfl (fun w Q M R σ' Φ' q=>cop_int q) (lk_var rfl) A6 (fun A'=>A'.get (.head _)) h6 hrl fun σ₇ W₇ d1 svs1 L7 A7 hd1 hs1=>?_
 refine comp_filt r.toRun (vs:=acc6) (P:=fun w=>decide (w.k=2)) (D:=D) (by exact .plain) rfl (fun w Q M R σ' Φ' q=>cop_int q) (lk_var rfl) A7 (fun A'=>A'.get (.head _)) (h6.mono L7) hrl fun σ₈ W₈ d2 svs2 L8 A8 hd2 hs2=>?_
 have hl1:svs1.length≤10:=by
  rw [hs1.length,List.length_map]
  have:=List.length_filter_le (fun w:Wd=>decide (w.k < 2)) raw6
  (revert hrl this; lia)
 have hl2:svs2.length≤10:=by
  rw [hs2.length,List.length_map]
  have:=List.length_filter_le (fun w:Wd=>decide (w.k=2)) raw6
  (revert hrl this; lia)
 refine bop_lists ⟨svs1,svs2,A8.fz (L8 _ _ hd1),A8.fz hd2,by (revert hl1 hl2; lia),fun d3 hd3=>?_⟩
 have A9:=A8.newF (o:=.list (svs1++svs2)) hd3
 have L9:=A8.newle (o:=.list (svs1++svs2)) hd3
 have hmem:∀ w:Wd,w∈raw6.filter (fun w=>decide (w.k < 2))++raw6.filter (fun w=>decide (w.k=2))↔w∈raw6:=fun w=>by
  rw [List.mem_append,List.mem_filter,List.mem_filter]
  constructor
  ·rintro (h | h) <;> exact h.1
  ·intro h
   have:=(hraw6.ok w h).k
   by_cases h2:w.k < 2
   ·exact .inl ⟨h,by simpa using h2⟩
   ·exact .inr ⟨h,by simp; (revert this h2; lia)⟩
 refine q _ _ d3 _ (raw6.filter (fun w=>decide (w.k < 2))++raw6.filter (fun w=>decide (w.k=2))) (L6.trans' (L7.trans' (L8.trans' L9))) (A9.sub (List.sublist_cons_self _ _)) Sto.set_same ?_ ⟨hraw6.z.ord,fun w hw=>hraw6.ok w ((hmem w).mp hw),fun h=>?_,fun h w hw=>hraw6.inr (by simpa using h) w ((hmem w).mp hw),?_,fun h=>absurd h h3⟩
 ·rw [List.map_append]
  exact ((hs1.mono L8).append hs2).mono L9
 ·obtain ⟨bw,hbw,hbn⟩:=hbad6 (by simpa using h)
  unfold badOf
  rw [List.any_eq_true]
  refine ⟨bw,(hmem bw).mpr hbw,?_⟩
  unfold inR at hbn
  simp only [Bool.or_eq_true,decide_eq_true_eq]
  (revert hbn; lia)
 ·have e:(raw6.filter (fun w=>decide (w.k < 2))++raw6.filter (fun w=>decide (w.k=2))).length=raw6.length:=by
   rw [List.length_append]
   have:raw6.filter (fun w=>decide (w.k=2))=raw6.filter (fun w=>!decide (w.k < 2)):=List.filter_congr fun w hw=>by
    have:=(hraw6.ok w hw).k
    rcases this with h | h | h <;> rw [h] <;> rfl
   rw [this]
   exact filt_len _ raw6
  rw [e]
  have:=hraw6.len
  (revert hnk hrl e this; lia)
end
noncomputable def st1 (l n:Int) (cur:Option Mt) (w:Wd):Option Mt:=if w.k=0 then none else if w.l=l∧w.n=n then (if w.k=2 then w.m else none) else cur
noncomputable def stw (ws:List Wd) (l n:Int):Option Mt:=ws.foldl (st1 l n) none
theorem stw_snoc (ws:List Wd) (w:Wd) (l n:Int):stw (ws++[w]) l n=st1 l n (stw ws l n) w:=by unfold stw; rw [List.foldl_append]; rfl
theorem stw_app (ws us:List Wd) (l n:Int):stw (ws++us) l n=us.foldl (st1 l n) (stw ws l n):=by unfold stw; rw [List.foldl_append]
noncomputable def WdN (w:Wd):Prop:=w.k=2→∃ m,w.m=some m∧m.n=w.n
theorem foldl_skip {l n:Int} (ws:List Wd) (cur:Option Mt) (h:∀ w∈ws,¬ (w.k=0∨(w.l=l∧w.n=n))):ws.foldl (st1 l n) cur=cur:=by
 induction ws with
 | nil=>rfl
 | cons w ws ih =>
  have hw:=h w (.head _)
  rw [List.foldl_cons]
  have:st1 l n cur w=cur:=by
   unfold st1
   rw [if_neg (fun e=>hw (.inl e)),if_neg (fun e=>hw (.inr e))]
  rw [this]
  exact ih fun u hu=>h u (.tail _ hu)
theorem foldl_any {l n:Int} (ws:List Wd) (cur cur':Option Mt) (h:∃ w∈ws,w.k=0∨(w.l=l∧w.n=n)):ws.foldl (st1 l n) cur=ws.foldl (st1 l n) cur':=by
 induction ws generalizing cur cur' with
 | nil=>obtain ⟨w,hw,_⟩:=h; cases hw
 | cons w ws ih =>
  rw [List.foldl_cons,List.foldl_cons]
  by_cases hw:w.k=0∨(w.l=l∧w.n=n)
  ·have:st1 l n cur w=st1 l n cur' w:=by
    unfold st1
    rcases hw with e | e
    ·rw [if_pos e,if_pos e]
    ·by_cases e0:w.k=0
     ·rw [if_pos e0,if_pos e0]
     ·rw [if_neg e0,if_neg e0,if_pos e,if_pos e]
   rw [this]
  ·refine ih _ _ ?_
   obtain ⟨u,hu,h⟩:=h
   rcases List.mem_cons.mp hu with rfl | hu
   ·exact absurd h hw
   ·exact ⟨u,hu,h⟩
theorem hit_iff {w u:Wd}:hit w u=true↔(u.k=0∨(u.l=w.l∧u.n=w.n)):=by unfold hit; simp
theorem filt_nil {w:Wd} {ws:List Wd}:ws.filter (hit w)=[]↔∀ u∈ws,¬ (u.k=0∨(u.l=w.l∧u.n=w.n)):=by
 rw [List.filter_eq_nil_iff]
 constructor
 ·intro h u hu e; exact h u hu (hit_iff.mpr e)
 ·intro h u hu e; exact h u hu (hit_iff.mp e)
theorem mem_stand {ws:List Wd} (h:∀ w∈ws,WdN w) {l:Int} {m:Mt}:(l,m)∈stand ws↔stw ws l m.n=some m:=by
 induction ws with
 | nil=>exact ⟨fun h=>nm h,fun h=>nn h⟩
 | cons w ws ih =>
  have ih:=ih fun u hu=>h u (.tail _ hu)
  have hw:=h w (.head _)
  have e:stw (w::ws) l m.n=ws.foldl (st1 l m.n) (st1 l m.n none w):=rfl
  rw [e]
  by_cases hany:∃ u∈ws,u.k=0∨(u.l=l∧u.n=m.n)
  ·rw [foldl_any ws _ none hany]
   show _↔stw ws l m.n=some m
   rw [← ih]
   by_cases hs:w.k=2∧ws.filter (hit w)=[]
   ·obtain ⟨mw,hm,hn⟩:=hw hs.1
    rw [stand_take hm hs.1 hs.2,List.mem_cons]
    constructor
    ·rintro (h' | h')
     ·exfalso
      injection h' with h1 h2
      subst h2
      obtain ⟨u,hu,hu2⟩:=hany
      refine (filt_nil.mp hs.2) u hu ?_
      rw [← h1,← hn]; exact hu2
     ·exact h'
    ·exact .inr
   ·rw [stand_skip hs]
  ·have hall:∀ u∈ws,¬ (u.k=0∨(u.l=l∧u.n=m.n)):=fun u hu e=>hany ⟨u,hu,e⟩
   rw [foldl_skip ws _ hall]
   have hno:¬ (l,m)∈stand ws:=fun hm=>by
    have h1:=ih.mp hm
    unfold stw at h1
    rw [foldl_skip ws _ hall] at h1
    cases h1
   by_cases hs:w.k=2∧ws.filter (hit w)=[]
   ·obtain ⟨mw,hm,hn⟩:=hw hs.1
    rw [stand_take hm hs.1 hs.2,List.mem_cons]
    constructor
    ·rintro (h' | h')
     ·injection h' with h1 h2
      subst h2
      unfold st1
      rw [if_neg (by (refine' (?_:_→_) hs.1; lia)),if_pos ⟨h1.symm,hn.symm⟩,if_pos hs.1,hm]
     ·exact absurd h' hno
    ·intro h'
     left
     unfold st1 at h'
     rw [if_neg (by (refine' (?_:_→_) hs.1; lia))] at h'
     split at h'
     ·rename_i hln
      rw [if_pos hs.1,hm] at h'
      cases h'
      rw [hln.1]
     ·cases h'
   ·rw [stand_skip hs]
    constructor
    ·intro h'; exact absurd h' hno
    ·intro h'
     exfalso
     unfold st1 at h'
     split at h'
     ·cases h'
     ·split at h'
      ·rename_i hln
       split at h'
       ·rename_i hk2
        refine hs ⟨hk2,filt_nil.mpr fun u hu=>?_⟩
        rw [hln.1,hln.2]
        exact hall u hu
       ·cases h'
      ·cases h'
theorem stand_distinct {ws:List Wd} (h:∀ w∈ws,WdN w):(stand ws).Pairwise fun p q=>¬ (p.1=q.1∧p.2.n=q.2.n):=by
 induction ws with
 | nil=>exact .nil
 | cons w ws ih =>
  have ih:=ih fun u hu=>h u (.tail _ hu)
  by_cases hs:w.k=2∧ws.filter (hit w)=[]
  ·obtain ⟨mw,hm,hn⟩:=h w (.head _) hs.1
   rw [stand_take hm hs.1 hs.2,List.pairwise_cons]
   refine ⟨fun q hq e=>?_,ih⟩
   obtain ⟨l,m⟩:=q
   have h1:=(mem_stand (fun u hu=>h u (.tail _ hu))).mp hq
   unfold stw at h1
   simp only at e
   rw [foldl_skip ws _ (fun u hu e'=>(filt_nil.mp hs.2) u hu (by rw [e.1,← hn,e.2]; exact e'))] at h1
   cases h1
  ·rw [stand_skip hs]; exact ih
theorem stw_num {ws:List Wd} (h:∀ w∈ws,WdN w) {l n:Int} {m:Mt} (e:stw ws l n=some m):m.n=n:=by
 have:∀ (ws:List Wd) (cur:Option Mt),(∀ w∈ws,WdN w)→(∀ m,cur=some m→m.n=n)→∀ m,ws.foldl (st1 l n) cur=some m→m.n=n:=by
  intro ws
  induction ws with
  | nil=>intro cur _ hc m e; exact hc m e
  | cons w ws ih =>
   intro cur h hc m e
   rw [List.foldl_cons] at e
   refine ih _ (fun u hu=>h u (.tail _ hu)) (fun m' e'=>?_) m e
   unfold st1 at e'
   split at e'
   ·cases e'
   ·split at e'
    ·rename_i hln
     split at e'
     ·rename_i hk
      obtain ⟨mw,hm,hn⟩:=h w (.head _) hk
      rw [hm] at e'; cases e'
      rw [hn]; exact hln.2
     ·cases e'
    ·exact hc m' e'
 exact this ws none h (fun m e=>by cases e) m e
theorem gget_cons {α:Type} (p:Int×α) (kvs:List (Int×α)) (k:Int):gget (p::kvs) k=if p.1=k then some p.2 else gget kvs k:=by
 unfold gget
 by_cases h:p.1=k
 ·simp [List.find?_cons,h]
 ·simp [List.find?_cons,h]
theorem gget_del {α:Type} (kvs:List (Int×α)) (k k':Int):gget (gdel kvs k) k'=if k'=k then none else gget kvs k':=by
 induction kvs with
 | nil=>exact (ite_self none).symm
 | cons p kvs ih =>
  have e:gdel (p::kvs) k=if p.1=k then gdel kvs k else p::gdel kvs k:=by
   unfold gdel; rw [List.filter_cons]; by_cases h:p.1=k <;> simp [h]
  rw [e,gget_cons]
  by_cases h:p.1=k
  ·rw [if_pos h,ih]
   by_cases h':k'=k
   ·rw [if_pos h',if_pos h']
   ·rw [if_neg h',if_neg h',if_neg (by (revert h h'; lia))]
  ·rw [if_neg h,gget_cons,ih]
   by_cases h':k'=k
   ·rw [if_pos h',if_pos h',if_neg (by (revert h h'; lia))]
   ·rw [if_neg h',if_neg h']
theorem gget_app {α:Type} (kvs:List (Int×α)) (p:Int×α) (k:Int):gget (kvs++[p]) k=(gget kvs k).or (if p.1=k then some p.2 else none):=by
 induction kvs with
 | nil=>exact gget_cons p [] k
 | cons q kvs ih =>
  rw [List.cons_append,gget_cons,gget_cons,ih]
  by_cases h:q.1=k
  ·rw [if_pos h,if_pos h]; rfl
  ·rw [if_neg h,if_neg h]
theorem gget_rep {α:Type} (v:α) (k:Int) (kvs:List (Int×α)) (k':Int):gget (kvs.map fun p=>if p.1=k then (p.1,v) else p) k'=if k'=k then (if kvs.any (fun p=>p.1=k) then some v else none) else gget kvs k':=by
 induction kvs with
 | nil=>exact (ite_self none).symm
 | cons p kvs ih =>
  rw [List.map_cons,gget_cons,ih,gget_cons]
  by_cases h:p.1=k
  ·rw [if_pos h]
   by_cases h':k'=k
   ·simp [h,h']
   ·have:¬ p.1=k':=by (revert h h'; lia)
    simp [h',this]
  ·rw [if_neg h]
   by_cases h':k'=k
   ·have:¬ p.1=k':=by (revert h h'; lia)
    subst h'
    rw [if_pos rfl,if_pos rfl,List.any_cons,show decide (p.1=k')=false by simpa using this,Bool.false_or]
    simp [this]
   ·simp [h']
theorem gget_any {α:Type} (kvs:List (Int×α)) (k:Int):(kvs.any fun p=>p.1=k)=(gget kvs k).isSome:=by
 induction kvs with
 | nil=>rfl
 | cons p kvs ih =>
  rw [List.any_cons,ih,gget_cons]
  by_cases h:p.1=k <;> simp [h]
theorem gget_set {α:Type} (kvs:List (Int×α)) (k:Int) (v:α) (k':Int):gget (gset kvs k v) k'=if k'=k then some v else gget kvs k':=by
 unfold gset
 by_cases ha:(kvs.any fun p=>p.1=k)=true
 ·rw [if_pos ha,gget_rep,ha]; simp
 ·rw [if_neg ha,gget_app]
  have h0:gget kvs k=none:=by
   rw [gget_any] at ha
   cases e:gget kvs k with
   | none=>rfl
   | some x=>rw [e] at ha; simp at ha
  by_cases h:k'=k
  ·subst h; rw [h0]; simp
  ·have:¬ k=k':=fun e=>h e.symm
   rw [if_neg this,if_neg h,Option.or_none]
theorem del_keys {α:Type} {kvs:List (Int×α)} {k:Int} (h:(kvs.map (·.1)).Nodup):((gdel kvs k).map (·.1)).Nodup:=h.sublist ((List.filter_sublist).map _)
theorem set_keys {α:Type} {kvs:List (Int×α)} {k:Int} {v:α} (h:(kvs.map (·.1)).Nodup):((gset kvs k v).map (·.1)).Nodup:=by
 unfold gset
 by_cases ha:(kvs.any fun p=>p.1=k)=true
 ·rw [if_pos ha,List.map_map]
  have:(kvs.map ((fun p=>p.1) ∘ fun p=>if p.1=k then (p.1,v) else p))=kvs.map (·.1):=List.map_congr_left fun p _=>by
   simp only [Function.comp]; split <;> rfl
  rw [this]; exact h
 ·rw [if_neg ha,List.map_append,List.nodup_append]
  refine ⟨h,by simp,fun a ha' b hb e=>?_⟩
  simp only [List.map_cons,List.map_nil,List.mem_singleton] at hb
  subst hb; subst e
  obtain ⟨p,hp,e⟩:=List.mem_map.mp ha'
  exact ha (List.any_eq_true.mpr ⟨p,hp,by simpa using e⟩)
theorem gget_some_mem {α:Type} {kvs:List (Int×α)} {k:Int} {v:α} (h:gget kvs k=some v):k∈kvs.map (·.1):=by
 unfold gget at h
 obtain ⟨p,hp,rfl⟩:=Option.map_eq_some_iff.mp h
 have h1:=List.find?_some hp
 have h2:=List.mem_of_find?_eq_some hp
 refine List.mem_map.mpr ⟨p,h2,by simpa using h1⟩
noncomputable def bget (fs:List Mt) (n:Int):Option Mt:=fs.find? fun m=>decide (m.n=n)
noncomputable def valOf (bfss:List (List Mt)) (s:Mk) (k:Nat) (n:Int):Option Mt:=match gget (s.as.getD k []) n with
 | some m=>some m
 | none=>if (gget (s.ds.getD k []) n).isSome=true∨s.dr=true then none else bget (bfss.getD k []) n
structure MInv (cnt:Nat) (bfss:List (List Mt)) (s:Mk) (ws:List Wd):Prop where
 nd:s.ds.length=cnt
 na:s.as.length=cnt
 key:∀ k n m,gget (s.as.getD k []) n=some m→m.n=n
 nodup:∀ k,((s.as.getD k []).map (·.1)).Nodup
 val:∀ k,k < cnt→∀ n,stw ws k n=valOf bfss s k n
theorem getD_set {α:Type} (l:List α) (i j:Nat) (x d:α):(l.set i x).getD j d=if j=i∧i < l.length then x else l.getD j d:=by
 rw [List.getD_eq_getElem?_getD,List.getD_eq_getElem?_getD]
 by_cases h:j=i
 ·subst h
  by_cases h2:j < l.length
  ·rw [List.getElem?_set_self h2,if_pos ⟨rfl,h2⟩]; rfl
  ·rw [if_neg (fun e=>h2 e.2),List.getElem?_eq_none (by simpa using h2),List.getElem?_eq_none (by (revert h2; lia))]
 ·rw [List.getElem?_set_ne (by (revert h; lia)),if_neg (fun e=>h e.1)]
section
variable {cnt:Nat} {bfss:List (List Mt)} {s:Mk} {ws:List Wd}
theorem MInv.del (h:MInv cnt bfss s ws) {w:Wd} (hk:w.k=1) (hr:inR cnt w):MInv cnt bfss (s.del w.l.toNat w.n) (ws++[w]):=by
 obtain ⟨l,hl⟩:∃ l:Nat,w.l=l:=⟨w.l.toNat,by unfold inR at hr; (revert hr; lia)⟩
 have hlc:l < cnt:=by unfold inR at hr; (revert hr hl; lia)
 rw [hl,Int.toNat_natCast]
 have ea:∀ k,(s.del l w.n).as.getD k []=if k=l then gdel (s.as.getD l []) w.n else s.as.getD k []:=fun k=>by
  unfold Mk.del; simp only; rw [getD_set]
  by_cases e:k=l
  ·rw [if_pos ⟨e,by rw [h.na]; exact hlc⟩,if_pos e]
  ·rw [if_neg (fun q=>e q.1),if_neg e]
 have ed:∀ k,(s.del l w.n).ds.getD k []=if k=l then gset (s.ds.getD l []) w.n (.bool true) else s.ds.getD k []:=fun k=>by
  unfold Mk.del; simp only; rw [getD_set]
  by_cases e:k=l
  ·rw [if_pos ⟨e,by rw [h.nd]; exact hlc⟩,if_pos e]
  ·rw [if_neg (fun q=>e q.1),if_neg e]
 refine ⟨by unfold Mk.del; simpa using h.nd,by unfold Mk.del; simpa using h.na,fun k n m e=>?_,fun k=>?_,fun k hk' n=>?_⟩
 ·rw [ea] at e
  split at e
  ·rename_i q; subst q
   rw [gget_del] at e
   split at e
   ·cases e
   ·exact h.key _ n m e
  ·exact h.key k n m e
 ·rw [ea]
  split
  ·exact del_keys (h.nodup _)
  ·exact h.nodup k
 ·rw [stw_snoc,h.val k hk' n]
  unfold st1 valOf
  rw [if_neg (by (revert hk; lia)),ea,ed,hl]
  by_cases q:k=l
  ·subst q
   rw [if_pos rfl,if_pos rfl,gget_del,gget_set]
   by_cases q2:w.n=n
   ·subst q2
    rw [if_pos ⟨rfl,rfl⟩,if_neg (by (revert hk; lia)),if_pos rfl,if_pos rfl]; simp
   ·have q3:¬ n=w.n:=fun e=>q2 e.symm
    rw [if_neg (show ¬ ((k:Int)=k∧w.n=n) from fun e=>q2 e.2)]
    simp only [if_neg q3]
    rfl
  ·rw [if_neg (fun e=>q (by have:=e.1; (revert e; lia))),if_neg q,if_neg q]; rfl
theorem MInv.put (h:MInv cnt bfss s ws) {w:Wd} {m:Mt} (hk:w.k=2) (hr:inR cnt w) (hm:w.m=some m) (hn:m.n=w.n):MInv cnt bfss (s.put w.l.toNat m) (ws++[w]):=by
 obtain ⟨l,hl⟩:∃ l:Nat,w.l=l:=⟨w.l.toNat,by unfold inR at hr; (revert hr; lia)⟩
 have hlc:l < cnt:=by unfold inR at hr; (revert hr hl; lia)
 rw [hl,Int.toNat_natCast]
 have ea:∀ k,(s.put l m).as.getD k []=if k=l then gset (s.as.getD l []) m.n m else s.as.getD k []:=fun k=>by
  unfold Mk.put; simp only; rw [getD_set]
  by_cases e:k=l
  ·rw [if_pos ⟨e,by rw [h.na]; exact hlc⟩,if_pos e]
  ·rw [if_neg (fun q=>e q.1),if_neg e]
 have ed:∀ k,(s.put l m).ds.getD k []=if k=l then gdel (s.ds.getD l []) m.n else s.ds.getD k []:=fun k=>by
  unfold Mk.put; simp only; rw [getD_set]
  by_cases e:k=l
  ·rw [if_pos ⟨e,by rw [h.nd]; exact hlc⟩,if_pos e]
  ·rw [if_neg (fun q=>e q.1),if_neg e]
 refine ⟨by unfold Mk.put; simpa using h.nd,by unfold Mk.put; simpa using h.na,fun k n m' e=>?_,fun k=>?_,fun k hk' n=>?_⟩
 ·rw [ea] at e
  split at e
  ·rename_i q; subst q
   rw [gget_set] at e
   split at e
   ·rename_i q; cases e; exact q.symm
   ·exact h.key _ n m' e
  ·exact h.key k n m' e
 ·rw [ea]
  split
  ·exact set_keys (h.nodup _)
  ·exact h.nodup k
 ·rw [stw_snoc,h.val k hk' n]
  unfold st1 valOf
  rw [if_neg (by (revert hk; lia)),ea,ed,hl]
  by_cases q:k=l
  ·subst q
   rw [if_pos rfl,if_pos rfl,gget_set,gget_del]
   by_cases q2:w.n=n
   ·rw [if_pos ⟨rfl,q2⟩,if_pos hk,if_pos (by rw [hn,q2]),hm]
   ·have q3:¬ n=m.n:=fun e=>q2 (by rw [e,hn])
    rw [if_neg (show ¬ ((k:Int)=k∧w.n=n) from fun e=>q2 e.2)]
    simp only [if_neg q3]
    rfl
  ·rw [if_neg (fun e=>q (by have:=e.1; (revert e; lia))),if_neg q,if_neg q]; rfl
theorem foldl_zero {l n:Int} (z:List Wd) (cur:Option Mt) (hz:z≠[]) (h:∀ w∈z,w.k=0):z.foldl (st1 l n) cur=none:=by
 induction z generalizing cur with
 | nil=>exact absurd rfl hz
 | cons w z ih =>
  have e:st1 l n cur w=none:=if_pos (h w (.head _))
  rw [List.foldl_cons]
  by_cases q:z=[]
  ·rw [q]; exact e
  ·exact ih _ q fun u hu=>h u (.tail _ hu)
theorem getD_map_nil {α β:Type} (l:List α) (k:Nat):(l.map fun _=>([]:List β)).getD k []=[]:=by
 rw [List.getD_eq_getElem?_getD,List.getElem?_map]
 cases l[k]? <;> rfl
theorem MInv.reset (h:MInv cnt bfss s ws) {z:List Wd} (hz:z≠[]) (hk:∀ w∈z,w.k=0):MInv cnt bfss s.reset (ws++z):=by
 have ea:∀ k,s.reset.as.getD k []=[]:=fun k=>getD_map_nil _ k
 have ed:∀ k,s.reset.ds.getD k []=[]:=fun k=>getD_map_nil _ k
 refine ⟨by unfold Mk.reset; simpa using h.nd,by unfold Mk.reset; simpa using h.na,fun k n m e=>?_,fun k=>by rw [ea]; simp,fun k hk' n=>?_⟩
 ·rw [ea] at e; cases e
 ·rw [stw_app,foldl_zero z _ hz hk]
  unfold valOf
  rw [ea,ed]
  show none=if (none:Option V).isSome=true∨s.reset.dr=true then none else _
  rw [if_pos (.inr rfl)]
theorem MInv.dels (o:List Wd) (s:Mk) (ws:List Wd) (h:MInv cnt bfss s ws) (ho:∀ w∈o,w.k=1∧inR cnt w):MInv cnt bfss ((o.map fun w=>(w.l,w.n)).foldl (fun s p=>s.del p.1.toNat p.2) s) (ws++o):=by
 induction o generalizing s ws with
 | nil=>rw [List.append_nil]; exact h
 | cons w o ih =>
  have hw:=ho w (.head _)
  have:=ih _ _ (h.del hw.1 hw.2) fun u hu=>ho u (.tail _ hu)
  rw [List.append_assoc] at this
  exact this
theorem MInv.puts (t:List Wd) (s:Mk) (ws:List Wd) (h:MInv cnt bfss s ws) (ht:∀ w∈t,w.k=2∧inR cnt w∧WdN w):MInv cnt bfss ((addsOf t).foldl (fun s p=>s.put p.1.toNat p.2) s) (ws++t):=by
 induction t generalizing s ws with
 | nil=>rw [List.append_nil]; exact h
 | cons w t ih =>
  have hw:=ht w (.head _)
  obtain ⟨m,hm,hn⟩:=hw.2.2 hw.1
  have:=ih _ _ (h.put hw.1 hw.2.1 hm hn) fun u hu=>ht u (.tail _ hu)
  rw [List.append_assoc] at this
  have e:addsOf (w::t)=(w.l,m)::addsOf t:=by
   unfold addsOf
   rw [List.filterMap_cons,if_neg (by (refine' (?_:_→_) hw.1; lia)),hm]; rfl
  rw [e,List.foldl_cons]
  exact this
theorem rsOf_app (a b:List Wd):rsOf (a++b)=(rsOf a || rsOf b):=by unfold rsOf; exact List.any_append
theorem delsOf_app (a b:List Wd):delsOf (a++b)=delsOf a++delsOf b:=by unfold delsOf; exact List.filterMap_append
theorem addsOf_app (a b:List Wd):addsOf (a++b)=addsOf a++addsOf b:=by unfold addsOf; exact List.filterMap_append
theorem MInv.told (h:MInv cnt bfss s ws) {said:List Wd} (ho:Ord said) (hi:∀ w∈said,inR cnt w) (hn:∀ w∈said,WdN w):MInv cnt bfss (told cnt s said) (ws++said):=by
 have hb:badOf cnt said=false:=by
  unfold badOf
  rw [List.any_eq_false]
  intro w hw
  have:=hi w hw
  unfold inR at this
  simp; (revert this; lia)
 unfold Mine.Internal.told
 rw [hb,if_neg (by simp)]
 obtain ⟨z,o,t,rfl,h1,h2,h3⟩:=ho
 have r1:rsOf o=false:=by unfold rsOf; rw [List.any_eq_false]; intro w hw; rw [h2 w hw]; simp
 have r2:rsOf t=false:=by unfold rsOf; rw [List.any_eq_false]; intro w hw; rw [h3 w hw]; simp
 have d1:delsOf z=[]:=by unfold delsOf; rw [List.filterMap_eq_nil_iff]; intro w hw; rw [h1 w hw]; rfl
 have d2:delsOf t=[]:=by unfold delsOf; rw [List.filterMap_eq_nil_iff]; intro w hw; rw [h3 w hw]; rfl
 have d3:∀ o:List Wd,(∀ w∈o,w.k=1)→delsOf o=o.map fun w=>(w.l,w.n):=by
  intro o
  induction o with
  | nil=>intro _; rfl
  | cons w o ih =>
   intro h
   unfold delsOf at ih ⊢
   rw [List.filterMap_cons,if_pos (h w (.head _)),List.map_cons]
   simp only
   rw [ih fun u hu=>h u (.tail _ hu)]
 have a1:addsOf z=[]:=by unfold addsOf; rw [List.filterMap_eq_nil_iff]; intro w hw; rw [if_pos (.inl (h1 w hw))]
 have a2:addsOf o=[]:=by unfold addsOf; rw [List.filterMap_eq_nil_iff]; intro w hw; rw [if_pos (.inr (h2 w hw))]
 unfold Mk.apply
 rw [rsOf_app,rsOf_app,delsOf_app,delsOf_app,addsOf_app,addsOf_app,r1,r2,d1,d2,a1,a2,d3 o h2]
 simp only [Bool.or_false,List.nil_append,List.append_nil]
 rw [← List.append_assoc,← List.append_assoc]
 have hs:MInv cnt bfss (if rsOf z=true then s.reset else s) (ws++z):=by
  by_cases hz:z=[]
  ·subst hz; simpa [rsOf] using h
  ·have:rsOf z=true:=by
    cases z with
    | nil=>exact absurd rfl hz
    | cons w z=>unfold rsOf; rw [List.any_cons,h1 w (.head _)]; rfl
   rw [if_pos this]
   exact h.reset hz h1
 refine MInv.puts t _ _ (MInv.dels o _ _ hs fun w hw=>⟨h2 w hw,hi w (by simp [hw])⟩) fun w hw=>⟨h3 w hw,hi w (by simp [hw]),hn w (by simp [hw])⟩
end
noncomputable def lexB (a b:Mt):Prop:=a.lo.1 < b.lo.1∨(a.lo.1=b.lo.1∧(a.lo.2 < b.lo.2∨(a.lo.2=b.lo.2∧a.n < b.n)))
theorem befB_iff (l:Int) (a b:Mt):befB l a b=true↔(0 < l∧lexB a b)∨(¬ 0 < l∧a.n < b.n):=by
 unfold befB lexB cmpE
 by_cases hl:0 < l
 ·by_cases h1:a.lo.1 < b.lo.1
  ·simp [hl,h1]
  ·by_cases h2:b.lo.1 < a.lo.1
   ·simp [hl,h1,h2]; (revert h2; lia)
   ·by_cases h3:a.lo.2 < b.lo.2
    ·simp [hl,h1,h2,h3]; (revert h1 h2; lia)
    ·by_cases h4:b.lo.2 < a.lo.2
     ·simp [hl,h1,h2,h3,h4]; (revert h4; lia)
     ·simp [hl,h1,h2,h3,h4]; (revert h1 h2 h3 h4; lia)
 ·simp [hl]
theorem lexO (a b:Int) {P Q:Prop} (h:P∨Q):(a < b∨a=b∧P)∨(b < a∨b=a∧Q) :=
 (Int.lt_trichotomy a b).elim (fun g=>.inl (.inl g)) fun g=>g.elim (fun g=>h.elim (fun p=>.inl (.inr ⟨g,p⟩)) fun q=>.inr (.inr ⟨g.symm,q⟩)) fun g=>.inr (.inl g)
theorem befB_trans {l:Int} {a b c:Mt} (h1:befB l a b=true) (h2:befB l b c=true):befB l a c=true :=
 (befB_iff _ _ _).mpr (((befB_iff _ _ _).mp h1).elim (fun g=>((befB_iff _ _ _).mp h2).elim (fun k=>.inl ⟨g.1,lexT (lexT Int.lt_trans) g.2 k.2⟩) fun k=>absurd g.1 k.1) fun g=>((befB_iff _ _ _).mp h2).elim (fun k=>absurd k.1 g.1) fun k=>.inr ⟨g.1,Int.lt_trans g.2 k.2⟩)
theorem befB_total {l:Int} {a b:Mt} (hn:a.n≠b.n) (h:befB l a b=false):befB l b a=true:=by
 have h':¬ befB l a b=true:=by rw [h]; exact Bool.false_ne_true
 have o:=Int.lt_or_gt_of_ne hn
 by_cases c:0 < l
 ·exact (befB_iff _ _ _).mpr (.inl ⟨c,(lexO _ _ (lexO _ _ o)).resolve_left fun g=>h' ((befB_iff _ _ _).mpr (.inl ⟨c,g⟩))⟩)
 ·exact (befB_iff _ _ _).mpr (.inr ⟨c,o.resolve_left fun g=>h' ((befB_iff _ _ _).mpr (.inr ⟨c,g⟩))⟩)
theorem place_sorted {lv:Int} {fs:List Mt} {m:Mt} {k:Nat} (hs:fs.Pairwise fun a b=>befB lv a b=true) (hn:∀ y∈fs,y.n≠m.n) (h:PlaceOk lv fs m k):(fs.take k++m::fs.drop k).Pairwise fun a b=>befB lv a b=true:=by
 obtain ⟨hk,hb,ha⟩:=h
 have hs':=hs
 rw [← List.take_append_drop k fs,List.pairwise_append] at hs'
 obtain ⟨p1,p2,p3⟩:=hs'
 have hlo:∀ y∈fs.take k,befB lv y m=true:=fun y hy=>by
  obtain ⟨i,hi,rfl⟩:=List.mem_iff_getElem.mp hy
  have hi':i < k:=by rw [List.length_take] at hi; exact Nat.lt_of_lt_of_le hi (Nat.min_le_left ..)
  have hk0:0 < k:=by (revert hi'; lia)
  have e1:fs[k-1]?=some fs[k-1]:=List.getElem?_eq_getElem (by (refine' (?_:_→_→_) hk hk0; lia))
  have hb':=hb _ hk0 e1
  rw [List.getElem_take]
  by_cases hik:i=k-1
  ·subst hik; exact hb'
  ·have:=List.pairwise_iff_getElem.mp hs i (k-1) (by (refine' (?_:_→_→_) hk hi'; lia)) (by (refine' (?_:_→_→_) hk hk0; lia)) (by (refine' (?_:_→_→_→_) hi' hk0 hik; lia))
   exact befB_trans this hb'
 have hhi:∀ y∈fs.drop k,befB lv m y=true:=fun y hy=>by
  obtain ⟨i,hi,rfl⟩:=List.mem_iff_getElem.mp hy
  have hi':k+i < fs.length:=by simp at hi; (revert hk hi; lia)
  have e1:fs[k]?=some fs[k]:=List.getElem?_eq_getElem (by (refine' (?_:_→_→_) hk hi'; lia))
  have ha':=befB_total (hn _ (List.getElem_mem (by (refine' (?_:_→_→_) hk hi'; lia)))) (ha _ e1)
  rw [List.getElem_drop]
  by_cases hik:i=0
  ·subst hik; exact ha'
  ·have:=List.pairwise_iff_getElem.mp hs k (k+i) (by (refine' (?_:_→_→_) hk hi'; lia)) (by (refine' (?_:_→_) hi'; lia)) (by (refine' (?_:_→_) hik; lia))
   exact befB_trans ha' this
 rw [List.pairwise_append]
 refine ⟨p1,?_,fun a hax b hbx=>?_⟩
 ·rw [List.pairwise_cons]; exact ⟨hhi,p2⟩
 ·rcases List.mem_cons.mp hbx with rfl | hbx
  ·exact hlo a hax
  ·exact p3 a hax b hbx
theorem mem_ins {α:Type} {l:List α} {k:Nat} {m y:α}:y∈l.take k++m::l.drop k↔y=m∨y∈l:=by
 have e:y∈l↔y∈l.take k∨y∈l.drop k:=by
  conv=>lhs; rw [← List.take_append_drop k l]
  rw [List.mem_append]
 rw [e,List.mem_append,List.mem_cons]
 constructor
 ·rintro (h | h | h) <;> simp [h]
 ·rintro (h | h | h) <;> simp [h]
theorem placed_law {lv:Int} {as:List (Int×Mt)} (key:∀ n m,gget as n=some m→m.n=n) {ns:List Int} {fs gs:List Mt} (h:Placed lv as fs ns gs) (h1:fs.Pairwise fun a b=>befB lv a b=true) (h2:fs.Pairwise fun a b=>a.n≠b.n) (h3:ns.Nodup) (h4:∀ n∈ns,∀ y∈fs,y.n≠n) :
  (gs.Pairwise fun a b=>befB lv a b=true)∧(gs.Pairwise fun a b=>a.n≠b.n)∧∀ y,y∈gs↔y∈fs∨∃ n∈ns,gget as n=some y:=by
 induction h with
 | nil=>exact ⟨h1,h2,fun y=>by simp⟩
 | @cons fs n ns gs k m e hp hr ih =>
  have hmn:=key n m e
  rw [List.nodup_cons] at h3
  have hfm:∀ y∈fs,y.n≠m.n:=fun y hy=>by rw [hmn]; exact h4 n (.head _) y hy
  have hd:(fs.take k++m::fs.drop k).Pairwise fun a b=>a.n≠b.n:=by
   have h2':=h2
   rw [← List.take_append_drop k fs,List.pairwise_append] at h2'
   rw [List.pairwise_append,List.pairwise_cons]
   refine ⟨h2'.1,⟨fun y hy=>(hfm y (List.mem_of_mem_drop hy)).symm,h2'.2.1⟩,fun a ha b hb=>?_⟩
   rcases List.mem_cons.mp hb with rfl | hb
   ·exact hfm a (List.mem_of_mem_take ha)
   ·exact h2'.2.2 a ha b hb
  obtain ⟨g1,g2,g3⟩:=ih (place_sorted h1 hfm hp) hd h3.2 fun n' hn' y hy=>by
   rcases mem_ins.mp hy with rfl | hy
   ·rw [hmn]; intro q; subst q; exact h3.1 hn'
   ·exact h4 n' (.tail _ hn') y hy
  refine ⟨g1,g2,fun y=>?_⟩
  rw [g3,mem_ins]
  constructor
  ·rintro ((rfl | h) | ⟨n',hn',h⟩)
   ·exact .inr ⟨n,.head _,e⟩
   ·exact .inl h
   ·exact .inr ⟨n',.tail _ hn',h⟩
  ·rintro (h | ⟨n',hn',h⟩)
   ·exact .inl (.inr h)
   ·rcases List.mem_cons.mp hn' with rfl | hn'
    ·rw [e] at h; cases h; exact .inl (.inl rfl)
    ·exact .inr ⟨n',hn',h⟩
structure BaseOk (cnt:Nat) (bfss:List (List Mt)):Prop where
 len:bfss.length=cnt
 srt:∀ k,(bfss.getD k []).Pairwise fun a b=>befB k a b=true
 num:∀ k,(bfss.getD k []).Pairwise fun a b=>a.n≠b.n
theorem bget_iff {fs:List Mt} (h:fs.Pairwise fun a b=>a.n≠b.n) {n:Int} {m:Mt}:bget fs n=some m↔m∈fs∧m.n=n:=by
 unfold bget
 induction fs with
 | nil=>simp
 | cons y fs ih =>
  rw [List.pairwise_cons] at h
  rw [List.find?_cons]
  by_cases hy:y.n=n
  ·simp only [hy,decide_true,Option.some.injEq]
   constructor
   ·rintro rfl; exact ⟨.head _,hy⟩
   ·rintro ⟨hm,hn⟩
    rcases List.mem_cons.mp hm with rfl | hm
    ·rfl
    ·exact absurd (by rw [hy,hn]) (h.1 m hm)
  ·simp only [hy,decide_false]
   rw [ih h.2]
   constructor
   ·rintro ⟨hm,hn⟩; exact ⟨.tail _ hm,hn⟩
   ·rintro ⟨hm,hn⟩
    rcases List.mem_cons.mp hm with rfl | hm
    ·exact absurd hn hy
    ·exact ⟨hm,hn⟩
theorem fin_level {cnt:Nat} {bfss:List (List Mt)} {s:Mk} {ws:List Wd} (h:MInv cnt bfss s ws) (hb:BaseOk cnt bfss) {k:Nat} (hk:k < cnt) {gs:List Mt} (hf:FinOf s bfss k gs) :
  (gs.Pairwise fun a b=>befB k a b=true)∧(gs.Pairwise fun a b=>a.n≠b.n)∧∀ y,y∈gs↔stw ws k y.n=some y:=by
 obtain ⟨ns,hp,hs,hpl⟩:=hf
 have hbs:(baseK s bfss k).Sublist (bfss.getD k []):=by
  unfold baseK; split
  ·exact List.nil_sublist _
  ·exact List.filter_sublist
 have hnd:ns.Nodup:=hp.nodup_iff.mpr (h.nodup k)
 obtain ⟨g1,g2,g3⟩:=placed_law (h.key k) hpl ((hb.srt k).sublist hbs) ((hb.num k).sublist hbs) hnd fun n hn y hy e=>by
  unfold baseK at hy
  split at hy
  ·cases hy
  ·have:=(List.mem_filter.mp hy).2
   unfold keep1 at this
   obtain ⟨v,hv⟩:=gget_mem (hp.mem_iff.mp hn)
   rw [e,hv] at this
   simp at this
 refine ⟨g1,g2,fun y=>?_⟩
 rw [g3,h.val k hk]
 unfold valOf
 constructor
 ·rintro (hy | ⟨n,hn,hy⟩)
  ·unfold baseK at hy
   split at hy
   ·cases hy
   ·rename_i hdr
    obtain ⟨hy1,hy2⟩:=List.mem_filter.mp hy
    unfold keep1 at hy2
    simp only [Bool.and_eq_true,Option.isNone_iff_eq_none] at hy2
    rw [hy2.2,hy2.1]
    simp only
    rw [if_neg (by simpa using hdr)]
    exact (bget_iff (hb.num k)).mpr ⟨hy1,rfl⟩
  ·have:=h.key k n y hy
   rw [this,hy]
 ·intro hv
  cases ha:gget (s.as.getD k []) y.n with
  | some m =>
   rw [ha] at hv
   simp only [Option.some.injEq] at hv
   subst hv
   exact .inr ⟨m.n,hp.mem_iff.mpr (gget_some_mem ha),ha⟩
  | none =>
   rw [ha] at hv
   simp only at hv
   split at hv
   ·cases hv
   ·rename_i hd
    left
    have hd1:¬ (gget (s.ds.getD k []) y.n).isSome=true:=fun e=>hd (.inl e)
    have hd2:¬ s.dr=true:=fun e=>hd (.inr e)
    unfold baseK
    rw [if_neg hd2]
    refine List.mem_filter.mpr ⟨((bget_iff (hb.num k)).mp hv).1,?_⟩
    unfold keep1
    rw [ha]
    have:gget (s.ds.getD k []) y.n=none:=by
     cases e:gget (s.ds.getD k []) y.n with
     | none=>rfl
     | some x=>rw [e] at hd1; simp at hd1
    rw [this]; rfl
noncomputable def allF (cnt:Nat) (fss:List (List Mt)):List (Int×Mt):=(List.range cnt).flatMap fun k=>(fss.getD k []).map fun m=>((k:Int),m)
theorem mem_allF {cnt:Nat} {fss:List (List Mt)} {l:Int} {m:Mt}:(l,m)∈allF cnt fss↔∃ k,k < cnt∧l=k∧m∈fss.getD k []:=by
 unfold allF
 rw [List.mem_flatMap]
 constructor
 ·rintro ⟨k,hk,h⟩
  obtain ⟨m',hm',e⟩:=List.mem_map.mp h
  cases e
  exact ⟨k,by simpa using hk,rfl,hm'⟩
 ·rintro ⟨k,hk,rfl,hm⟩
  exact ⟨k,by simpa using hk,List.mem_map.mpr ⟨m,hm,rfl⟩⟩
theorem allF_snd {cnt:Nat} {fss:List (List Mt)} (h:fss.length=cnt):(allF cnt fss).map (·.2)=fss.flatten:=by
 unfold allF
 rw [List.map_flatMap,List.flatten_eq_flatMap]
 have e:fss=(List.range cnt).map fun k=>fss.getD k []:=by
  refine List.ext_getElem? fun i=>?_
  rw [List.getElem?_map]
  by_cases hi:i < cnt
  ·rw [List.getElem?_range hi,List.getElem?_eq_getElem (by (revert h hi; lia))]
   simp only [Option.map_some,List.getD_eq_getElem?_getD]
   rw [List.getElem?_eq_getElem (by (revert h hi; lia))]; rfl
  ·rw [List.getElem?_eq_none (by (revert h hi; lia)),List.getElem?_eq_none (by simpa using hi)]; rfl
 conv=>rhs; rw [e]
 rw [List.flatMap_map]
 refine congrArg (fun f=>List.flatMap f (List.range cnt)) ?_
 funext k
 rw [List.map_map]
 exact List.map_id _
theorem allF_pw {cnt:Nat} {fss:List (List Mt)} {R:Int×Mt→Int×Mt→Prop} (h1:∀ k,k < cnt→(fss.getD k []).Pairwise fun a b=>R ((k:Int),a) ((k:Int),b)) (h2:∀ k k',k < k'→k' < cnt→∀ a∈fss.getD k [],∀ b∈fss.getD k' [],R ((k:Int),a) ((k':Int),b)):(allF cnt fss).Pairwise R:=by
 unfold allF
 rw [List.pairwise_flatMap]
 refine ⟨fun k hk=>?_,?_⟩
 ·rw [List.pairwise_map]; exact h1 k (by simpa using hk)
 ·refine List.Pairwise.imp_of_mem ?_ (List.pairwise_lt_range (n:=cnt))
  intro k k' hk hk' hlt x hx y hy
  obtain ⟨a,ha,rfl⟩:=List.mem_map.mp hx
  obtain ⟨b,hb,rfl⟩:=List.mem_map.mp hy
  exact h2 k k' hlt (by simpa using hk') a ha b hb
theorem chk_adj {k:Nat} {fs:List Mt} (h:∀ i,fileOk k fs i):(∀ y∈fs,cmpE y.lo y.hi≤0)∧fs.Pairwise (adjOk k):=by
 induction fs with
 | nil=>exact ⟨fun _ h=>nm h,.nil⟩
 | cons a fs ih =>
  obtain ⟨g1,g2⟩:=ih fun i m hm=>by
   have:=h (i+1) m (by simpa using hm)
   refine ⟨this.1,fun h0 b hb=>this.2 (by (revert h0; lia)) b ?_⟩
   rw [show i+1-1=(i-1)+1 by (revert h0; lia)]
   simpa using hb
  have ha:cmpE a.lo a.hi≤0:=(h 0 a rfl).1
  refine ⟨fun y hy=>?_,List.pairwise_cons.mpr ⟨fun y hy=>?_,g2⟩⟩
  ·rcases List.mem_cons.mp hy with rfl | hy
   ·exact ha
   ·exact g1 y hy
  ·cases fs with
   | nil=>cases hy
   | cons b fs =>
    have hab:adjOk k a b:=(h 1 b rfl).2 (by lia) a rfl
    rcases List.mem_cons.mp hy with rfl | hy
    ·exact hab
    ·have hby:=(List.pairwise_cons.mp g2).1 y hy
     have hb:=cmp_le (g1 b (.head _))
     unfold adjOk at *
     split
     ·rename_i q; rw [if_pos q] at hab hby; (revert hab hby; lia)
     ·rename_i q; rw [if_neg q] at hab hby; (revert hab hby hb; lia)
theorem fin_law {cnt:Nat} {bfss:List (List Mt)} {s:Mk} {ws:List Wd} (h:MInv cnt bfss s ws) (hb:BaseOk cnt bfss) (hw:∀ w∈ws,WdN w) (hi:∀ p∈stand ws,0≤p.1∧p.1 < cnt) (hz:ws.length < 64):FinLaw s bfss cnt (stand ws):=by
 intro fss hlen hfin
 have lev:=fun k (hk:k < cnt)=>fin_level h hb hk (hfin k hk)
 have dist:=stand_distinct hw
 have nd1:(stand ws).Nodup:=dist.imp fun hpq e=>hpq ⟨by rw [e],by rw [e]⟩
 have nd2:(allF cnt fss).Nodup:=allF_pw (fun k hk=>((lev k hk).2.1).imp fun hn e=>hn (by injection e with _ e; rw [e])) (fun k k' hlt _ a _ b _ e=>by injection e with e _; (revert hlt e; lia))
 have perm:(stand ws).Perm (allF cnt fss):=(List.perm_ext_iff_of_nodup nd1 nd2).mpr fun ⟨l,m⟩=>by
  rw [mem_allF]
  constructor
  ·intro hm
   have hr:=hi _ hm
   simp only at hr
   have hr2:=hr.1
   have hr3:=hr.2
   have hlt:l.toNat < cnt:=by (revert hr2 hr3; lia)
   refine ⟨l.toNat,hlt,by (revert hr2; lia),((lev l.toNat hlt).2.2 m).mpr ?_⟩
   rw [show ((l.toNat:Nat):Int)=l by (revert hr2; lia)]
   exact (mem_stand hw).mp hm
  ·rintro ⟨k,hk,rfl,hm⟩
   exact (mem_stand hw).mpr (((lev k hk).2.2 m).mp hm)
 have hflen:fss.flatten.length < 64:=by
  rw [← allF_snd hlen,List.length_map,← perm.length_eq]
  have:=stand_length ws
  (revert hz this; lia)
 have gperm:good (stand ws)↔good (allF cnt fss):=by
  unfold good
  rw [List.Perm.pairwise_iff (fun {x y}=>clash_symm) perm]
  constructor
  ·rintro ⟨a,b⟩; exact ⟨fun p hp=>a p (perm.mem_iff.mpr hp),b⟩
  ·rintro ⟨a,b⟩; exact ⟨fun p hp=>a p (perm.mem_iff.mp hp),b⟩
 have lvlp:∀ k,k < cnt→(fss.getD k []).Perm (lvlK k (stand ws)):=fun k hk=>by
  have n1:(fss.getD k []).Nodup:=((lev k hk).2.1).imp fun hn e=>hn (by rw [e])
  have n2:(lvlK k (stand ws)).Nodup:=lvlK_pw (dist.imp fun hpq h1 h2 e=>hpq ⟨by rw [h1,h2],by rw [e]⟩)
  refine (List.perm_ext_iff_of_nodup n1 n2).mpr fun m=>?_
  rw [mem_lvlK,mem_stand hw,(lev k hk).2.2]
 have nums:(fss.flatten.map (·.n)).Nodup↔(allF cnt fss).Pairwise fun p q=>p.2.n≠q.2.n:=by
  rw [← allF_snd hlen,List.map_map,List.nodup_iff_pairwise_ne,List.pairwise_map]
  exact Iff.rfl
 refine ⟨hflen,fun hg=>⟨⟨hg,hlen,fun k hk=>⟨lvlp k hk,(lev k hk).1⟩⟩,?_⟩,fun hc=>?_⟩
 ·-- good ones pass the check
  have hg':=gperm.mp hg
  refine ⟨nums.mpr (hg'.2.imp fun hpq e=>hpq (.inl e)),fun k fs hfs i m hm=>?_⟩
  have hk:k < cnt:=by have:=(List.getElem?_eq_some_iff.mp hfs).1; (revert hlen this; lia)
  have efs:fss.getD k []=fs:=by rw [List.getD_eq_getElem?_getD,hfs]; rfl
  have hmf:m∈fs:=List.mem_of_getElem? hm
  have hgm:∀ y∈fs,cmpE y.lo y.hi≤0:=fun y hy=>hg'.1 _ (mem_allF.mpr ⟨k,hk,rfl,by rw [efs]; exact hy⟩)
  refine ⟨hgm m hmf,fun h0 b hbb=>?_⟩
  have hbf:b∈fs:=List.mem_of_getElem? hbb
  have hil:=(List.getElem?_eq_some_iff.mp hm)
  have hbl:=(List.getElem?_eq_some_iff.mp hbb)
  have srt:=(lev k hk).1
  rw [efs] at srt
  have hbm:=List.pairwise_iff_getElem.mp srt (i-1) i hbl.1 hil.1 (by (revert h0; lia))
  rw [hbl.2,hil.2,befB_iff] at hbm
  unfold adjOk
  by_cases hk0:k=0
  ·rw [if_pos hk0]; exact (hbm.resolve_left fun h=>absurd h.1 (by (revert hk0; lia))).2
  ·rw [if_neg hk0]
   have hpw:=good_pw (k:=k) hg
   have hpw2:fs.Pairwise fun a b=>a.n≠b.n∧(0 < k→¬ (a.lo.1≤b.hi.1∧b.lo.1≤a.hi.1)):=by
    have:=lvlp k hk
    rw [efs] at this
    refine (List.Perm.pairwise_iff (fun {x y} hxy=>⟨fun e=>hxy.1 e.symm,fun h1 h2=>hxy.2 h1 ⟨h2.2,h2.1⟩⟩) this).mpr hpw
   have hno:=List.pairwise_iff_getElem.mp hpw2 (i-1) i hbl.1 hil.1 (by (revert h0; lia))
   rw [hbl.2,hil.2] at hno
   have hno:=hno.2 (by (revert hk0 hno; lia))
   have c1:=cmp_le (hgm m hmf)
   have c2:=cmp_le (hgm b hbf)
   unfold lexB at hbm
   (revert hbm hno hk0 c1; lia)
 ·-- what passes the check is good
  rw [gperm]
  obtain ⟨hn,hf⟩:=hc
  have adj:∀ k,k < cnt→(∀ y∈fss.getD k [],cmpE y.lo y.hi≤0)∧(fss.getD k []).Pairwise (adjOk k):=fun k hk=>by
   refine chk_adj fun i=>hf k _ ?_ i
   rw [List.getD_eq_getElem?_getD,List.getElem?_eq_getElem (by (revert hlen hk; lia))]; rfl
  refine ⟨fun ⟨l,m⟩ hp=>?_,?_⟩
  ·obtain ⟨k,hk,rfl,hm⟩:=mem_allF.mp hp
   exact (adj k hk).1 m hm
  ·have p1:=nums.mp hn
   have p2:(allF cnt fss).Pairwise fun p q=>¬ (p.1=q.1∧0 < q.1∧p.2.lo.1≤q.2.hi.1∧q.2.lo.1≤p.2.hi.1):=by
    refine allF_pw (fun k hk=>((adj k hk).2).imp fun {a b} hab e=>?_) (fun k k' hlt _ a _ b _ e=>by have:=e.1; simp only at this; (revert hlt e; lia))
    unfold adjOk at hab
    simp only at e
    rw [if_neg (by (refine' (?_:_→_) e.2.1; lia))] at hab
    (refine' (?_:_→_→_) hab e.2.2.2; lia)
   refine (p1.and p2).imp fun {a b} hab=>?_
   rintro (h1 | h1)
   ·exact hab.1 h1
   ·exact hab.2 h1
theorem lv_base {cnt:Nat} {st:List (Int×Mt)} {bfss:List (List Mt)} (h:LvOk cnt st bfss):BaseOk cnt bfss:=by
 refine ⟨h.2.1,fun k=>?_,fun k=>?_⟩
 ·by_cases hk:k < cnt
  ·exact (h.2.2 k hk).2
  ·rw [List.getD_eq_getElem?_getD,List.getElem?_eq_none (by have:=h.2.1; (revert hk this; lia))]; simp
 ·by_cases hk:k < cnt
  ·exact (List.Perm.pairwise_iff (fun {x y} hxy e=>hxy e.symm) (h.2.2 k hk).1).mpr ((good_pw h.1).imp fun e=>e.1)
  ·rw [List.getD_eq_getElem?_getD,List.getElem?_eq_none (by have:=h.2.1; (revert hk this; lia))]; simp
noncomputable def mk0 (cnt:Nat):Mk:=⟨false,List.replicate cnt [],List.replicate cnt []⟩
theorem getD_rep {α:Type} (n k:Nat):(List.replicate n ([]:List α)).getD k []=[]:=by
 rw [List.getD_eq_getElem?_getD,List.getElem?_replicate]
 split <;> rfl
theorem inv_base {cnt:Nat} {ws:List Wd} {bfss:List (List Mt)} (hw:∀ w∈ws,WdN w) (h:LvOk cnt (stand ws) bfss):MInv cnt bfss (mk0 cnt) ws:=by
 refine ⟨by simp [mk0],by simp [mk0],fun k n m e=>?_,fun k=>?_,fun k hk n=>?_⟩
 ·simp only [mk0,getD_rep] at e; cases e
 ·simp only [mk0,getD_rep]; simp
 ·have hb:=lv_base h
  unfold valOf
  simp only [mk0,getD_rep]
  show stw ws k n=if (none:Option V).isSome=true∨false=true then none else bget (bfss.getD k []) n
  rw [if_neg (by simp)]
  have hiff:∀ m,stw ws k n=some m↔bget (bfss.getD k []) n=some m:=fun m=>by
   rw [bget_iff (hb.num k),(h.2.2 k hk).1.mem_iff,mem_lvlK,mem_stand hw]
   constructor
   ·intro e
    have:=stw_num hw e
    rw [this]; exact ⟨e,rfl⟩
   ·rintro ⟨e,hn⟩; rw [← hn]; exact e
  cases e:bget (bfss.getD k []) n with
  | some m=>exact (hiff m).mpr e
  | none =>
   cases e2:stw ws k n with
   | none=>rfl
   | some m=>rw [(hiff m).mp e2] at e; cases e
theorem inv_empty (cnt:Nat):MInv cnt (List.replicate cnt []) (mk0 cnt) []:=by
 refine ⟨by simp [mk0],by simp [mk0],fun k n m e=>?_,fun k=>?_,fun k hk n=>?_⟩
 ·simp only [mk0,getD_rep] at e; cases e
 ·simp only [mk0,getD_rep]; simp
 ·unfold valOf
  simp only [mk0,getD_rep]
  rfl
theorem base_empty (cnt:Nat):BaseOk cnt (List.replicate cnt []):=⟨by simp,fun k=>by rw [getD_rep]; simp,fun k=>by rw [getD_rep]; simp⟩
noncomputable def FirstOk (w:Wd):Prop:=w.k=2∧∃ m,w.m=some m∧m.n=w.n∧MtOk m∧m.s≤100∧cmpE m.lo m.hi≤0∧((w.l=0∧50≤m.n)∨(1≤w.l∧w.l≤3∧∃ j,0≤j∧j≤3∧m.n=10*w.l+j∧m.lo.1=2*j∧m.hi.1=2*j+1))
theorem stand_from {ws:List Wd} {l:Int} {m:Mt} (h:(l,m)∈stand ws):∃ w∈ws,w.k=2∧w.l=l∧w.m=some m:=by
 induction ws with
 | nil=>exact nm h
 | cons w ws ih =>
  by_cases hs:w.k=2∧ws.filter (hit w)=[]
  ·cases hm:w.m with
   | none =>
    have e:stand (w::ws)=stand ws:=by show (match w.m with | some m=>_ | none=>_)=_; rw [hm]
    rw [e] at h
    obtain ⟨u,hu,r⟩:=ih h
    exact ⟨u,.tail _ hu,r⟩
   | some mw =>
    rw [stand_take hm hs.1 hs.2] at h
    rcases List.mem_cons.mp h with h | h
    ·injection h with h1 h2; subst h1; subst h2
     exact ⟨w,.head _,hs.1,rfl,hm⟩
    ·obtain ⟨u,hu,r⟩:=ih h
     exact ⟨u,.tail _ hu,r⟩
  ·rw [stand_skip hs] at h
   obtain ⟨u,hu,r⟩:=ih h
   exact ⟨u,.tail _ hu,r⟩
theorem FirstOk.n {w:Wd} (h:FirstOk w):WdN w:=fun _=>by obtain ⟨_,m,a,b,_⟩:=h; exact ⟨m,a,b⟩
theorem first_good {ws:List Wd} (h:∀ w∈ws,FirstOk w):good (stand ws):=by
 have from':∀ p∈stand ws,cmpE p.2.lo p.2.hi≤0∧((p.1=0∧50≤p.2.n)∨(1≤p.1∧p.1≤3∧∃ j,0≤j∧j≤3∧p.2.n=10*p.1+j∧p.2.lo.1=2*j∧p.2.hi.1=2*j+1)):=fun ⟨l,m⟩ hp=>by
  obtain ⟨w,hw,h1,h2,h3⟩:=stand_from hp
  obtain ⟨_,m',a,b,_,_,c,d⟩:=h w hw
  rw [h3] at a; cases a
  subst h2
  exact ⟨c,d⟩
 refine ⟨fun p hp=>(from' p hp).1,?_⟩
 refine List.Pairwise.imp_of_mem ?_ (stand_distinct fun w hw=>(h w hw).n)
 intro p q hp hq hpq hc
 have h1:=(from' p hp).2
 have h2:=(from' q hq).2
 rcases h1 with ⟨h1,h1'⟩ | ⟨h1,h1',j,j0,j1,jn,jl,jh⟩ <;> rcases h2 with ⟨h2,h2'⟩ | ⟨h2,h2',i,i0,i1,inn,il,ih⟩
 ·rcases hc with hc | ⟨_,hc,_⟩
  ·exact hpq ⟨by (revert h1 h2; lia),hc⟩
  ·(revert h2 hc; lia)
 ·rcases hc with hc | ⟨hc,_⟩
  ·(revert h1' hc inn i1 h2'; lia)
  ·(revert h1 hc h2; lia)
 ·rcases hc with hc | ⟨hc,_⟩
  ·(revert h2' hc jn j1 h1'; lia)
  ·(revert h1 hc h2; lia)
 ·rcases hc with hc | ⟨hc,_,hc1,hc2⟩
  ·exact hpq ⟨by (revert j0 j1 jn i0 i1 inn hc; lia),hc⟩
  ·have:i=j:=by (revert jl jh il ih hc1 hc2; lia)
   exact hpq ⟨hc,by (revert jn inn hc this; lia)⟩
theorem tidy_first {v cnt t:Int} (hv:0≤v) (h1:2≤cnt) (h2:cnt≤4) (t0:0≤t) (t1:t≤100):FirstOk ⟨2,(tidy v cnt t).1,(tidy v cnt t).2.n,some (tidy v cnt t).2⟩∧inR cnt ⟨2,(tidy v cnt t).1,(tidy v cnt t).2.n,some (tidy v cnt t).2⟩:=by
 obtain ⟨h3,h4,h5⟩:=tidy_ok hv (show 1≤cnt by (revert h1 h2; lia)) h2 t0 t1
 refine ⟨⟨rfl,_,rfl,rfl,h4,by (revert h5; lia),?_,?_⟩,h3⟩
 ·have a1:=Int.emod_nonneg (v) (show cnt≠0 by (revert h1 h2; lia))
  have cle:∀ (a b c d:Int),(a < c∨(a=c∧b≤d))→cmpE (a,b) (c,d)≤0:=fun a b c d h=>by
   unfold cmpE
   simp only
   by_cases h1:a < c
   ·rw [if_pos h1]; lia
   ·rw [if_neg h1,if_neg (by (revert h; lia))]
    by_cases h2:b < d
    ·rw [if_pos h2]; lia
    ·rw [if_neg h2,if_neg (by (revert h h1; lia))]; lia
  unfold tidy
  by_cases h:v%cnt=0
  ·rw [if_pos h]; exact cle _ _ _ _ (by lia)
  ·rw [if_neg h]
   show cmpE (2*(v / cnt%4),-9) (2*(v / cnt%4)+1,0-v%7)≤0
   refine cle _ _ _ _ (.inl ?_)
   generalize v / cnt%4=z
   lia
 ·have a1:=Int.emod_nonneg v (show cnt≠0 by (revert h1 h2; lia))
  have a2:=Int.emod_lt_of_pos v (show 0 < cnt by (revert h1 h2; lia))
  unfold tidy
  by_cases h:v%cnt=0
  ·rw [if_pos h]; left; exact ⟨rfl,by show 50≤50+t; (revert t0 t1; lia)⟩
  ·rw [if_neg h]; right
   exact ⟨by show 1≤v%cnt; (revert a1 h; lia),by show v%cnt≤3; (revert h1 h2 a2; lia),v / cnt%4,by lia,by lia,rfl,rfl,rfl⟩
theorem draw_nn {ns:List Int} (h:∀ n∈ns,0≤n) (h0:0 < ns.length) {i:Int} (hi:0≤i):0≤draw ns i:=by
 unfold draw
 have e1:=Int.emod_nonneg i (show (ns.length:Int)≠0 by (revert h0; lia))
 have e2:=Int.emod_lt_of_pos i (show (0:Int) < ns.length by (revert h0; lia))
 have e3:0≤ns.getD (i%ns.length).toNat 0:=by
  rw [List.getD_eq_getElem?_getD,List.getElem?_eq_getElem (by (revert e1 e2; lia))]
  exact h _ (List.getElem_mem _)
 have e4:0≤i / (ns.length:Int):=Int.ediv_nonneg hi (by (revert h0; lia))
 (revert e3 e4; lia)
theorem mk_new {σ W:Sto} {m b dl al:Addr} {das aas:List Addr} {H:List (Addr×O)} (A:At σ W ((m,.inst 522 (mkF b false dl al))::(dl,.list (das.map V.ref))::(al,.list (aas.map V.ref))::((das.map fun a=>(a,.dict []))++((aas.map fun a=>(a,.dict []))++H)))) :
  At σ W (mkH m b dl al false (das.map fun a=>(a,[])) (aas.map fun a=>(a,[]))++H):=by
 unfold mkH dB rB
 rw [List.map_map,List.map_map,List.map_map,List.map_map]
 simp only [List.cons_append,List.append_assoc]
 exact A
theorem mk_is {W:Sto} {das aas:List Addr} {nl:Nat} (h1:das.length=nl) (h2:aas.length=nl):MkIs W (mk0 nl) (das.map fun a=>(a,[])) (aas.map fun a=>(a,[])) nl 0:=by
 have e:∀ (l:List Addr),(l.map fun a=>((a,[]):Addr×List (Int×V))).map (·.2)=List.replicate l.length []:=fun l=>by
  rw [List.map_map]
  induction l with
  | nil=>rfl
  | cons a l ih=>rw [List.map_cons,ih]; rfl
 refine ⟨by rw [e,h1]; rfl,⟨by rw [e,h2]; simp [mk0],fun k p m g1 g2=>?_⟩,by simp [mk0],by simp [mk0],fun d hd=>?_,fun d hd=>?_⟩
 ·rw [e,List.getElem?_replicate] at g1
  simp only [mk0,List.getElem?_replicate] at g2
  split at g1
  ·split at g2
   ·cases g1; cases g2; exact .nil
   ·cases g2
  ·cases g1
 ·have:=List.eq_of_mem_replicate hd; rw [this]; simp
 ·have:=List.eq_of_mem_replicate hd; rw [this]; simp
theorem ver_is {W:Sto} {las:List Addr} {nl:Nat} (h:las.length=nl):VLs W (las.map fun a=>(a,[])) (List.replicate nl []):=by
 refine ⟨by simpa using h,fun k p fs e1 e2=>?_⟩
 rw [List.getElem?_map] at e1
 obtain ⟨_,_,rfl⟩:=Option.map_eq_some_iff.mp e1
 rw [List.getElem?_replicate] at e2
 split at e2
 ·cases e2; rfl
 ·cases e2
inductive kSlB (la:Addr) (items:List Value) (ov:V) (Q:KV) (iv:V) (σ:Sto):Prop
 | mk (k:Int) (h:ov=.ref la) (i:iv=.int k) (h0:0≤k) (q:∀ c,σ c=none→Q (.ref c) (σ.set c (.list ((items.map er).take k.toNat))))
@[reducible] def kSlB1 (la:Addr) (items:List Value) (Φ:Act) (i:Expr) (M:Loc) (Q:KV) (R:KL):KV:=fun ov σ=>SE Φ i M σ (kSlB la items ov Q) R
theorem SE_slice_base {Φ:Act} {M:Loc} {σ:Sto} {Q:KV} {R:KL} {pos:Pos} {o i:Expr} {p:Pos} (ht:∀ ov r,letTemporaryGo o ov r=pure ()) {la:Addr} {items:List Value} (hb:Φ.base.IsList la items.toArray) (hz:items.length≤1000)
  (h:SE Φ o M σ (kSlB1 la items Φ i M Q R) R) :
  SE Φ (.Subscript o (.Slice none (some i) none p) pos) M σ Q R:=.mk <| .mk fun P s y =>
 wpAny_Subscript_list_slice (h.then (.refl s) y fun ov σ₁ s₁ m₁ y₁ h₁=>wpAny_evalPart_none (wpAny_evalPart_some (h₁.then m₁ y₁ fun iv σ₂ s₂ m₂ y₂ ⟨k,eo,ei,h0,q⟩=>by
  obtain rfl:=er_ref eo
  obtain ⟨t,rfl⟩:=er_int ei
  obtain ⟨mm,Fm,_⟩:=y₂.fr
  have hl:s₂.heap.IsList la items.toArray:=by
   obtain ⟨ob,ho,r⟩:=hb
   exact ⟨ob,Fm.keep _ _ ho,r⟩
  refine ⟨la,items.toArray,none,some k,rfl,hl,by rw [sizeLine_eq]; simp; (revert hz; lia),.none,.int _ _,?_⟩
  have hk:k=(k.toNat:Int):=by (revert h0; lia)
  rw [hk,slicePick_upto' items.toArray k.toNat,← hk]
  have z1:=y₂.keeps (h':=s₂.heap.push { cls:=.type "slice",data:=.fields #[.none,.int k t,.none] }) fun b o e=>Heap.get?_push_of_some _ e
  have z:=z1.pushObj (s:={ s₂ with heap:=s₂.heap.push { cls:=.type "slice",data:=.fields #[.none,.int k t,.none] } }) (ob:={ cls:=.type "list",data:=.seq (items.toArray.toList.take k.toNat).toArray }) (o:=.list ((items.map er).take k.toNat)) rfl
   (fun h' e=>⟨items.take k.toNat,0,e,by simp⟩) (by intro C fs q; cases q)
  have hsz:(s₂.heap.push { cls:=.type "slice",data:=.fields #[.none,.int k t,.none] }).objs.size=s₂.heap.objs.size+1:=Heap.size_push _ _
  dsimp only at z
  rw [hsz] at z
  exact ⟨m₂.trans ⟨rfl,rfl,rfl⟩,_,z.2,q _ z.1⟩))) ht
noncomputable abbrev LF:=kFn
noncomputable abbrev lawVs:Vars:=[(Str.ofString "script",none),(Str.ofString "made",none),(Str.ofString "t",none),(Str.ofString "x",none),(Str.ofString "m",none),(Str.ofString "what",none),(Str.ofString "said",none),(Str.ofString "levels",none),(Str.ofString "times",none),(Str.ofString "k",none),(Str.ofString "version",none),(Str.ofString "i",none),(Str.ofString "level",none),(Str.ofString "meta",none),(Str.ofString "nums",none),(Str.ofString "a",none),(Str.ofString "b",none),(Str.ofString "count",none),(Str.ofString "options",none),(Str.ofString "first",none),(Str.ofString "maker",none),(Str.ofString "base",none),(Str.ofString "ground",none),(Str.ofString "score",none),(Str.ofString "makers",none),(Str.ofString "words",none),(Str.ofString "wilds",none)]
structure Fw (W:Sto) (cnt:Nat) (fi:Addr) (fw:List Wd):Prop where
 rep:∃ fvs,W fi=some (.list fvs)∧Reps W (fw.map wdD) fvs
 ok:∀ w∈fw,FirstOk w∧inR cnt w
 len:fw.length≤3
structure Nums (W:Sto) (nu:Addr) (ns:List Int):Prop where
 at_:W nu=some (.list (ns.map V.int))
 pos:0 < ns.length
 len:ns.length≤12
 nn:∀ n∈ns,0≤n
section
variable {c:Ctx} {n:Nat} {σ W:Sto} {Q:KV} {R:Sto→Prop} {H:List (Addr×O)}
theorem law_0 {Φ:Act} (r:RunF Φ (n+11) lawVs (scopeOf 633)) {sa:Addr} {items:List Value} {xs:List Int} (A:At σ W []) (hsa:Φ.base.IsList sa items.toArray) (hit:items.map er=xs.map V.int) (hxs:xs.length≤63)
  (rest:∀ (σ' W':Sto) (nu o fi hv:Addr) (ns:List Int) (a b lt bb lf:Int) (cnt:Nat) (fw:List Wd) (oi ol om:Option V),Nums W' nu ns→0≤a→2≤cnt→cnt≤4→OpOk lt bb lf→Fw W' cnt fi fw→At σ' W' [(o,.inst 305 (optF hv cnt lt bb lf))] →
   SS Φ (List.drop 12 (bodyOf 633)) [some (.ref sa),none,none,none,none,none,none,none,none,none,none,oi,ol,om,some (.ref nu),some (.int a),some (.int b),some (.int cnt),some (.ref o),some (.ref fi),none,none,none,none,none,none,none] σ' (LF Q) (kR R)) :
  SS Φ (bodyOf 633) [some (.ref sa),none,none,none,none,none,none,none,none,none,none,none,none,none,none,none,none,none,none,none,none,none,none,none,none,none,none] σ (LF Q) (kR R):=by
 -- nums
 walk_at "s"
 refine SX_comp_list (n:=n+10) (b:=false) (xs:=[Str.ofString "x"]) (cl:=[]) r.ok (by exact .plain) (swaps_true r (by decide +kernel) rfl (by decide +kernel)) rfl (by intros; rfl) ?_
 refine SE_slice_base (by intros; rfl) hsa (by have:=congrArg List.length hit; simp at this; (revert hxs this; lia)) ?_
 walk_at "go"
 refine ⟨_,rfl,rfl,by lia,fun d hd=>?_⟩
 rw [hit]
 rw [← List.map_take]
 rw [show (12:Int).toNat=12 from rfl]
 have hxl:(xs.take 12).length≤12:=by rw [List.length_take]; exact Nat.min_le_left ..
 generalize xs.take 12=ys at hxl
 have A1:=A.newF (o:=.list (ys.map V.int)) hd
 have hdW:(W.set d (.list (ys.map V.int))) d=some (.list (ys.map V.int)):=Sto.set_same
 refine ⟨d,_,rfl,A1.fz hdW,fun Φ' i=>?_⟩
 have r':=i.run r.toRun
 simp only [List.map_cons,List.map_nil] at r'
 have hcap:∀ {M:Loc},capM Φ false M=[]:=rfl
 rw [hcap]
 generalize σ.set d (.list (ys.map V.int))=σ₁ at A1
 generalize W.set d (.list (ys.map V.int))=W₁ at A1 hdW
 suffices comp:∀ (todo done:List Int),ys=done++todo→CG Φ' _ _ [] (fun σ=>σ d=some (.list (ys.map V.int))) [] 1 _ (todo.map V.int) ((done.map (·%999983)).map V.int) σ₁ from
  comp ys [] rfl
 intro todo
 induction todo with
 | cons y todo ih =>
  intro done g1
  refine ⟨A1.fz hdW,?_,fun tv htv=>?_⟩
  ·have:=congrArg List.length g1
   simp only [List.length_append,List.length_cons,List.length_map] at this ⊢
   (revert hxl this; lia)
  obtain ⟨x0,rfl⟩:=tv1 htv
  refine SG_name' r' (stK_ok (M:=[x0]) rfl) ?_
  refine ⟨[some (.int y)],rfl,rfl,CT_nil ?_⟩
  walk_at "go"
  refine mod_ (by lia) ?_
  have:=ih (done++[y]) (by rw [g1]; simp)
  simpa using this
 | nil =>
 intro done g1
 rw [List.append_nil] at g1
 subst g1
 refine ⟨A1.fz hdW,fun D hD=>?_⟩
 rw [r.vars]
 refine (let M1:Loc:=_; st_ (M':=M1) rfl ?_)
 have hms:∀ m∈ys.map (·%999983),0≤m:=fun m hm=>by
  obtain ⟨y,_,rfl⟩:=List.mem_map.mp hm
  exact Int.emod_nonneg _ (by decide)
 have hml:(ys.map (·%999983)).length≤12:=by simpa using hxl
 generalize ys.map (·%999983)=ms at hms hml
 have A2:=A1.newF (o:=.list (ms.map V.int)) hD
 have hDW:(W₁.set D (.list (ms.map V.int))) D=some (.list (ms.map V.int)):=Sto.set_same
 generalize σ₁.set D (.list (ms.map V.int))=σ₂ at A2
 generalize W₁.set D (.list (ms.map V.int))=W₂ at A2 hDW
 -- if len(nums) == 0
 let F1:KF:=fun f M' σ'=>f=.next∧∃ W' nu ns,M'=[some (.ref sa),none,none,none,none,none,none,none,none,none,none,none,none,none,some (.ref nu),none,none,none,none,none,none,none,none,none,none,none,none]∧Nums W' nu ns∧At σ' W' []
 refine SS_cons (SX.mono (F:=F1) ?_ ?_)
 ·walk_at "s"
  walk_at "go"
  refine b_len_list (A2.fz hDW) (by simp; (revert hml; lia)) ?_
  walk_at "go"
  refine ct_ ?_
  by_cases hm0:ms=[]
  ·refine ite_pos (by simp [hm0]) ?_
   walk_at "s"
   walk_at "s"
   refine SE_list ?_
   walk_at "go"
   refine ⟨by simp,fun d2 hd2=>?_⟩
   have A3:=A2.newF (o:=.list [.int 0]) hd2
   refine (let M1:Loc:=_; st_ (M':=M1) rfl ?_)
   walk_at "s"
   exact ⟨rfl,_,d2,[0],rfl,⟨Sto.set_same,by simp,by simp,by simp⟩,A3⟩
  ·refine ite_neg (by simpa using hm0) ?_
   walk_at "s"
   exact ⟨rfl,W₂,D,ms,rfl,⟨hDW,List.length_pos_iff.mpr hm0,hml,hms⟩,A2⟩
 rintro f M' σ₃ ⟨rfl,W₃,nu,ns,rfl,hns,A3⟩
 have hdr:∀ i:Int,0≤i→0≤draw ns i:=fun i hi=>draw_nn hns.nn hns.pos hi
 have hnl:=hns.len
 walk_at "go"
 refine ok_law_draw r.cx (A3.fz hns.at_) hns.pos (by (revert hnl; lia)) (by lia) ?_
 refine (let M1:Loc:=_; st_ (M':=M1) rfl ?_)
 walk_at "go"
 refine ok_law_draw r.cx (A3.fz hns.at_) hns.pos (by (revert hnl; lia)) (by lia) ?_
 refine st_ rfl ?_
 have ha:=hdr 0 (by lia)
 have hb:=hdr 1 (by lia)
 generalize draw ns 0=a at ha
 generalize draw ns 1=b at hb
 walk_at "go"
 refine mod_ (by lia) ?_
 refine bo_ ?_
 obtain ⟨cnt,hcnt⟩:∃ cnt:Nat,4-a%3=cnt:=⟨(4-a%3).toNat,by lia⟩
 rw [hcnt]
 have hc2:2≤cnt:=by (revert hcnt; lia)
 have hc4:cnt≤4:=by (revert hcnt; lia)
 refine (let M1:Loc:=_; st_ (M':=M1) rfl ?_)
 -- the options
 walk_at "go"
 refine ok_Options r.cx A3 fun σ₄ o hv A4=>?_
 refine (let M1:Loc:=_; st_ (M':=M1) rfl ?_)
 walk_at "s"
 refine X_sa ?_
 walk_at "go"
 refine sa_ (fs':=optF hv cnt 4 10485760 10) r.cx (A4.get (.head _)) rfl ?_
 have A5:=A4.upd (o':=.inst 305 (optF hv cnt 4 10485760 10))
 walk_at "s"
 refine X_sa ?_
 walk_at "go"
 refine div_ (by lia) ?_
 walk_at "go"
 refine mod_ (by lia) ?_
 refine bo_ ?_
 walk_at "go"
 refine sa_ (fs':=optF hv cnt (1+a / 3%4) 10485760 10) r.cx (A5.get (.head _)) rfl ?_
 have A6:=A5.upd (o':=.inst 305 (optF hv cnt (1+a / 3%4) 10485760 10))
 walk_at "s"
 refine X_sa ?_
 walk_at "go"
 refine div_ (by lia) ?_
 walk_at "go"
 refine mod_ (by lia) ?_
 refine bo_ ?_
 walk_at "go"
 refine sa_ (fs':=optF hv cnt (1+a / 3%4) (1+a / 12%40) 10) r.cx (A6.get (.head _)) rfl ?_
 have A7:=A6.upd (o':=.inst 305 (optF hv cnt (1+a / 3%4) (1+a / 12%40) 10))
 walk_at "s"
 refine X_sa ?_
 walk_at "go"
 refine div_ (by lia) ?_
 walk_at "go"
 refine mod_ (by lia) ?_
 refine bo_ ?_
 walk_at "go"
 refine sa_ (fs':=optF hv cnt (1+a / 3%4) (1+a / 12%40) (1+a / 480%3)) r.cx (A7.get (.head _)) rfl ?_
 have A8:=A7.upd (o':=.inst 305 (optF hv cnt (1+a / 3%4) (1+a / 12%40) (1+a / 480%3)))
 clear A4 A5 A6 A7
 have hop:OpOk (1+a / 3%4) (1+a / 12%40) (1+a / 480%3):=⟨by lia,by lia,by lia,by lia,by lia,by lia⟩
 generalize 1+a / 3%4=lt at A8 hop
 generalize 1+a / 12%40=bb at A8 hop
 generalize 1+a / 480%3=lf at A8 hop
 generalize Sto.set _ o (.inst 305 (optF hv cnt lt bb lf))=σ₅ at A8
 -- first
 walk_at "s"
 walk_at "s"
 refine SE_list ?_
 walk_at "go"
 refine ⟨by simp,fun D1 hD1=>?_⟩
 have A9:=A8.new (o:=.list []) hD1
 generalize σ₅.set D1 (.list [])=σ₆ at A9
 refine (let M1:Loc:=_; st_ (M':=M1) rfl ?_)
 walk_at "s"
 refine X_forr ?_
 walk_at "go"
 refine ⟨3,rfl,by lia,by lia,?_⟩
 suffices main:∀ (k j:Nat) (W₆ σ₇:Sto) (acc:List V) (fw:List Wd) (oi ol om:Option V),3-j=k→j≤3→Nums W₆ nu ns→At σ₇ W₆ [(D1,.list acc),(o,.inst 305 (optF hv cnt lt bb lf))]→Reps W₆ (fw.map wdD) acc→(∀ w∈fw,FirstOk w∧inR cnt w)→fw.length≤j →
   ForG Φ _ _ (fun _=>True) _ _ (rng j 3) [some (.ref sa),none,none,none,none,none,none,none,none,none,none,oi,ol,om,some (.ref nu),some (.int a),some (.int b),some (.int cnt),some (.ref o),some (.ref D1),none,none,none,none,none,none,none] σ₇ from
  main _ 0 W₃ σ₆ [] [] none none none rfl (by lia) hns A9 rfl (by simp) (by simp)
 clear A9 A8 hD1 σ₆ σ₅
 intro k
 induction k with
 | zero =>
  intro j W₆ σ₇ acc fw oi ol om hk hj hns6 A10 hacc hfw hfl
  have:j=3:=by (revert hk hj; lia)
  subst this
  rw [rng_nil (by lia)]
  refine ⟨trivial,?_⟩
  have L11:=A10.fle
  exact rest σ₇ _ nu o D1 hv ns a b lt bb lf cnt fw oi ol om ⟨L11 _ _ hns6.at_,hns6.pos,hns6.len,hns6.nn⟩ ha hc2 hc4 hop ⟨⟨acc,Sto.set_same,hacc.mono L11⟩,hfw,hfl⟩ A10.freeze
 | succ k ih =>
  intro j W₆ σ₇ acc fw oi ol om hk hj hns6 A10 hacc hfw hfl
  rw [rng_cons (by (revert hk hj; lia))]
  refine ⟨trivial,?_⟩
  refine (let M1:Loc:=_; let F1:KF:=_; SG_n (M':=M1) (K:=kSb _ _ F1 _) r.toRun rfl ?_)
  have hacl:acc.length≤3:=by rw [hacc.length,List.length_map]; (revert hj hfl; lia)
  have h5:0 < (5:Int) ^ j∧(5:Int) ^ j≤25:=by
   have:j=0∨j=1∨j=2:=by (revert hk hj; lia)
   rcases this with rfl | rfl | rfl <;> decide
  walk_at "s"
  refine SX_unpack r.ok rfl rfl ?_
  walk_at "go"
  refine bop_pow (by (revert hj; lia)) (by (revert hj; lia)) (by decide) ?_
  rw [Int.toNat_natCast]
  refine bop_int (b:=5 ^ j) ?_ (by intro _; (revert h5; lia))
  refine ⟨h5.1,?_⟩
  walk_at "go"
  refine bo_ ?_
  walk_at "go"
  have hq0:0≤b / 5 ^ j:=Int.ediv_nonneg hb (by (revert h5; lia))
  refine ok_law_tidy (cnt:=(cnt:Int)) r.cx A10 (by (revert hcnt; lia)) (by (revert hcnt; lia)) fun σ₈ W₈ la L8 A11 hla=>?_
  obtain ⟨hfo,hfi⟩:=tidy_first (v:=b / 5 ^ j) (cnt:=cnt) (t:=17+j) hq0 (by (revert hcnt; lia)) (by (revert hcnt; lia)) (by (revert hj; lia)) (by (revert hj; lia))
  generalize tidy (b / 5 ^ j) cnt (17+j)=lm at hla hfo hfi
  obtain ⟨bt,mv,hb1,hbt,hmv⟩:=rep_lm.mp hla
  cases hb1
  rw [r.vars]
  refine ⟨_,_,_,rfl,A11.fz hbt,stsK_ok rfl,?_⟩
  -- the file that is always there
  let F1:KF:=fun f M' σ'=>f=.next∧∃ W' lv mv' mt,M'=[some (.ref sa),none,none,none,none,none,none,none,none,none,none,some (.int j),some (.int lv),some mv',some (.ref nu),some (.int a),some (.int b),some (.int cnt),some (.ref o),some (.ref D1),none,none,none,none,none,none,none]∧W₈.le W'∧Rep W' (mtD mt) mv'∧FirstOk ⟨2,lv,mt.n,some mt⟩∧inR cnt ⟨2,lv,mt.n,some mt⟩∧At σ' W' [(D1,.list acc),(o,.inst 305 (optF hv cnt lt bb lf))]
  refine SS_cons (SX.mono (F:=F1) ?_ ?_)
  ·walk_at "s"
   walk_at "go"
   refine ct_ ?_
   by_cases hj0:j=0
   ·refine ite_pos (by simpa using hj0) ?_
    walk_at "s"
    refine SX_unpack_sw (names:=[Str.ofString "level",Str.ofString "meta"]) r.ok rfl (by
     obtain ⟨nm,s0,L0,a0,cd0,he,_⟩:=r.hfe fun v hv=>Option.isNone_iff_eq_none.mp (List.all_eq_true.mp (rfl:(lawVs.all fun v=>v.2.isNone)=true) v hv)
     have hs:Φ.env.scope=scopeOf 633:=r.scope
     rw [he] at hs ⊢
     replace hs:s0=scopeOf 633:=hs
     subst hs
     rfl) ?_
    refine SE_tuple (by simp) ?_
    walk_at "go"
    refine SE_tuple (by simp) ?_
    walk_at "go"
    refine mod_ (by lia) ?_
    refine bo_ ?_
    walk_at "go"
    refine mod_ (by lia) ?_
    refine bo_ ?_
    walk_at "go"
    refine SE_tuple (by simp) ?_
    walk_at "go"
    refine mod_ (by lia) ?_
    refine mul_ (.of_left (by decide)) ?_
    walk_at "go"
    refine ⟨_,rfl,?_⟩
    walk_at "go"
    refine ⟨by simp,fun a1 g1=>?_⟩
    walk_at "go"
    refine SE_tuple (by simp) ?_
    walk_at "go"
    refine mod_ (by lia) ?_
    refine mul_ (.of_left (by decide)) ?_
    walk_at "go"
    refine bo_ ?_
    walk_at "go"
    refine ⟨_,rfl,?_⟩
    walk_at "go"
    refine ⟨by simp,fun a2 g2=>?_⟩
    walk_at "go"
    refine ⟨by simp,fun a3 g3=>?_⟩
    walk_at "go"
    refine ⟨by simp,fun a4 g4=>?_⟩
    obtain ⟨W',hl,A',hr⟩:=lm_new A11 g1 g2 g3 g4
    obtain ⟨bt',mv2,hb2,hbt2,hmv2⟩:=rep_lm.mp hr
    cases hb2
    have e2:=A'.fz hbt2
    rw [Sto.set_same] at e2
    injection e2 with e2; injection e2 with e2; injection e2 with _ e2; injection e2 with e2 _
    subst e2
    refine ⟨a4,_,_,rfl,Sto.set_same,rfl,by rw [r.vars]; exact SetNs.cons (stK_ok rfl) (SetNs.cons (stK_ok rfl) SetNs.nil),?_⟩
    walk_at "s"
    refine ⟨rfl,W',1,_,⟨10+b%4,1+b%50,(2*(b%4),-5),(2*(b%4)+1,-2)⟩,rfl,hl,hmv2,?_,?_,A'⟩
    ·refine ⟨rfl,_,rfl,rfl,⟨⟨?_,?_,?_,?_⟩,⟨?_,?_,?_,?_⟩,?_,?_,?_,?_⟩,?_,?_,.inr ⟨Int.le_refl 1,show (1:Int)≤3 by decide,b%4,by lia,by lia,rfl,rfl,rfl⟩⟩ <;> (try simp only) <;> (try lia)
     unfold cmpE
     simp only
     rw [if_pos (by lia)]; lia
    ·exact ⟨show (0:Int)≤1 by decide,by show (1:Int) < cnt; (revert hcnt; lia)⟩
   ·refine ite_neg (by simpa using hj0) ?_
    walk_at "s"
    exact ⟨rfl,W₈,_,_,_,rfl,Sto.le_refl _,hmv,hfo,hfi,A11⟩
  rintro f M' σ₉ ⟨rfl,W₉,lv,mv',mt,rfl,L9,hmv',hfo',hfi',A12⟩
  obtain ⟨ma,mlo,mhi,rfl,hma,hmlo,hmhi⟩:=rep_mt.mp hmv'
  have metaI:∀ {M:Loc} {k1:Nat} {p1 p2 p3:Pos} {Q':KV} {R':KL} {σ':Sto},W₉.le σ'→Q' (.int mt.n) σ' →
    SE Φ (.Subscript (.Name (Str.ofString "meta") p1) (.Constant (.int 0) k1 p2) p3) [some (.ref sa),none,none,none,none,none,none,none,none,none,none,some (.int j),some (.int lv),some (.ref ma),some (.ref nu),some (.int a),some (.int b),some (.int cnt),some (.ref o),some (.ref D1),none,none,none,none,none,none,none] σ' Q' R':=by
   intro M k1 p1 p2 p3 Q' R' σ' hσ hq
   refine E_sub ?_
   walk_at "go"
   exact ⟨_,.tuple (hσ _ _ hma) (by lia) (by lia) rfl,hq⟩
  have hacc9:=hacc.mono (L8.trans' L9)
  have hns9:Nums W₉ nu ns:=⟨(L8.trans' L9) _ _ hns6.at_,hns6.pos,hns6.len,hns6.nn⟩
  walk_at "s"
  walk_at "s"
  walk_at "s"
  refine SE_tuple (by simp) ?_
  walk_at "go"
  refine metaI (M:=[]) A12.le ?_
  walk_at "go"
  refine ⟨by simp,fun t1 ht1=>?_⟩
  have A13:=A12.newF (o:=.tuple [.int lv,.int mt.n]) ht1
  have L13:=A12.newle (o:=.tuple [.int lv,.int mt.n]) ht1
  have hr1:Rep (W₉.set t1 (.tuple [.int lv,.int mt.n])) (endD (lv,mt.n)) (.ref t1):=rep_end.mpr ⟨t1,rfl,Sto.set_same⟩
  generalize σ₉.set t1 (.tuple [.int lv,.int mt.n])=σ₁₀ at A13
  generalize W₉.set t1 (.tuple [.int lv,.int mt.n])=W₁₀ at A13 L13 hr1
  refine SE_comp_list (n:=n+10) (b:=false) (xs:=[Str.ofString "word"]) (cl:=[]) r.ok (by exact .plain) rfl (by intros; rfl) ?_
  walk_at "go"
  refine ⟨D1,acc,rfl,A13.get (.head _),fun Φ' i=>?_⟩
  have r':=i.run r.toRun
  simp only [List.map_cons,List.map_nil] at r'
  have hcap:∀ {M:Loc},capM Φ false M=[]:=rfl
  rw [hcap]
  suffices comp:∀ (rest:List V) (done todo:List Wd) (acc2:List V) (W₁₁ σ₁₁:Sto),fw=done++todo→W₁₀.le W₁₁→Reps W₁₀ (todo.map wdD) rest→Reps W₁₁ ((done.map fun w=>(w.l,w.n)).map endD) acc2→At σ₁₁ W₁₁ [(D1,.list acc),(o,.inst 305 (optF hv cnt lt bb lf))] →
    CG Φ' _ _ [] (fun σ=>σ D1=some (.list acc)) [] 1 _ rest acc2 σ₁₁ from
   comp acc [] fw [] W₁₀ σ₁₀ rfl (Sto.le_refl _) (hacc9.mono L13) rfl A13
  intro rest'
  induction rest' with
  | cons u rest' ih2 =>
   intro done todo acc2 W₁₁ σ₁₁ g1 hW g2 g3 A14
   obtain ⟨w,ra,rfl,hp,g2'⟩:=list_more g2
   obtain ⟨wb,wmv,rfl,hwb,hwmv⟩:=rep_wd.mp hp
   refine ⟨A14.get (.head _),?_,fun tv htv=>?_⟩
   ·have h1:=g3.length
    have h2:=congrArg List.length g1
    simp only [List.length_append,List.length_map] at h1 h2
    (revert hj hfl h1 h2; lia)
   obtain ⟨x0,rfl⟩:=tv1 htv
   refine SG_name' r' (stK_ok (M:=[x0]) rfl) ?_
   refine ⟨[some (.ref wb)],rfl,rfl,CT_nil ?_⟩
   refine SE_tuple (by simp) ?_
   walk_at "go"
   refine E_sub ?_
   walk_at "go"
   refine ⟨.int w.l,.tuple (A14.fz (hW _ _ hwb)) (by lia) (by lia) rfl,?_⟩
   walk_at "go"
   refine E_sub ?_
   walk_at "go"
   refine ⟨.int w.n,.tuple (A14.fz (hW _ _ hwb)) (by lia) (by lia) rfl,?_⟩
   walk_at "go"
   refine ⟨by simp,fun t2 ht2=>?_⟩
   have L15:=A14.newle (o:=.tuple [.int w.l,.int w.n]) ht2
   refine ih2 (done++[w]) ra _ _ _ (by rw [g1]; simp) (hW.trans' L15) g2' ?_ (A14.newF ht2)
   rw [List.map_append,List.map_append]
   exact (g3.mono L15).snoc (rep_end.mpr ⟨t2,rfl,Sto.set_same⟩)
  | nil =>
  intro done todo acc2 W₁₁ σ₁₁ g1 hW g2 g3 A14
  have:=list_end g2
  subst this
  rw [List.append_nil] at g1
  subst g1
  refine ⟨A14.get (.head _),fun d2 hd2=>?_⟩
  have A15:=A14.newF (o:=.list acc2) hd2
  have L15:=A14.newle (o:=.list acc2) hd2
  have hr2:Rep (W₁₁.set d2 (.list acc2)) (.lst ((fw.map fun w=>(w.l,w.n)).map endD)) (.ref d2):=by
   exact ⟨d2,acc2,rfl,Sto.set_same,g3.mono L15⟩
  have LL:W₉.le (W₁₁.set d2 (.list acc2)):=L13.trans' (hW.trans' L15)
  have hr1':=hr1.mono (hW.trans' L15)
  generalize σ₁₁.set d2 (.list acc2)=σ₁₂ at A15
  generalize W₁₁.set d2 (.list acc2)=W₁₂ at A15 LL hr2 hr1'
  refine cop_notin_rep (bb:=@decide (endD (lv,mt.n)∈(fw.map fun w=>(w.l,w.n)).map endD) (Classical.propDecidable _)) r.ok 1 (by lia) (fun x hx=>?_) (hr1'.mono A15.le) (hr2.mono A15.le) (by simp) ?_
  ·obtain ⟨p,_,rfl⟩:=List.mem_map.mp hx
   simp [endD]
  generalize @decide (endD (lv,mt.n)∈(fw.map fun w=>(w.l,w.n)).map endD) (Classical.propDecidable _)=isin
  refine ⟨_,rfl,?_⟩
  have hns12:Nums W₁₂ nu ns:=⟨LL _ _ hns9.at_,hns9.pos,hns9.len,hns9.nn⟩
  cases isin with
  | true =>
   refine if_F ?_
   walk_at "s"
   walk_at "s"
   have:=ih (j+1) W₁₂ σ₁₂ acc fw (some (.int j)) (some (.int lv)) (some (.ref ma)) (by (revert hk hj; lia)) (by (revert hk hj; lia)) hns12 A15 (hacc9.mono LL) hfw (by (revert hfl; lia))
   rw [Int.natCast_succ] at this
   exact this
  | false =>
   refine ite_pos (show (!false)=true from rfl) ?_
   walk_at "s"
   refine X_ex ?_
   refine E_app ?_
   walk_at "go"
   refine ⟨D1,acc,rfl,A15.get (.head _),?_⟩
   walk_at "go"
   refine SE_tuple (by simp) ?_
   walk_at "go"
   refine metaI (M:=[]) (LL.trans' A15.le) ?_
   walk_at "go"
   refine ⟨by simp,fun t3 ht3=>?_⟩
   obtain ⟨A16,h16,L16⟩:=push_wd (w:=⟨2,lv,mt.n,some mt⟩) A15 (hacc9.mono LL) ht3 (hmv'.mono LL)
   walk_at "go"
   have A15':=A15.newF (o:=.tuple [.int 2,.int lv,.int mt.n,.ref ma]) ht3
   refine l_append (A15'.get (.head _)) (by (revert hacl; lia)) ?_
   walk_at "s"
   walk_at "s"
   have:=ih (j+1) _ _ _ (fw++[⟨2,lv,mt.n,some mt⟩]) (some (.int j)) (some (.int lv)) (some (.ref ma)) (by (revert hk hj; lia)) (by (revert hk hj; lia)) ⟨L16 _ _ hns12.at_,hns12.pos,hns12.len,hns12.nn⟩ A16 h16 (fun w hw=>by
    rcases List.mem_append.mp hw with hw | hw
    ·exact hfw w hw
    ·rw [List.mem_singleton] at hw; subst hw; exact ⟨hfo',hfi'⟩) (by simp; (revert hfl; lia))
   rw [Int.natCast_succ] at this
   exact this
end
structure BaseS (W:Sto) (cnt:Nat) (fw:List Wd) (bfss:List (List Mt)) (bps:List (Addr×List V)) (io bsc:Addr) (gv sv:V) (b0:Int×Int×Int):Prop where
 lv:LvOk cnt (stand fw) bfss
 vl:VLs W bps bfss
 ord:OrdAt W io
 gr:Rep W (levD bfss) gv
 sc:W bsc=some (.tuple [.int b0.1,.int b0.2.1])
 sr:Rep W (scoreD b0) sv
 ok:LsOk bfss
 fl:bfss.flatten.length < 64
theorem BaseS.mono {W W':Sto} {cnt:Nat} {fw:List Wd} {bfss:List (List Mt)} {bps:List (Addr×List V)} {io bsc:Addr} {gv sv:V} {b0:Int×Int×Int} (l:W.le W') (h:BaseS W cnt fw bfss bps io bsc gv sv b0):BaseS W' cnt fw bfss bps io bsc gv sv b0 :=
 ⟨h.lv,h.vl.mono l,h.ord.mono l,h.gr.mono l,l _ _ h.sc,h.sr.mono l,h.ok,h.fl⟩
theorem ls_ok {ls:List (List Mt)} {cnt:Nat} (ok:∀ fs∈ls,∀ y∈fs,MtOk y) (h:ls.flatten.length < 64) (hc:ls.length=cnt) (c2:2≤cnt) (c4:cnt≤4):LsOk ls:=⟨ok,fun fs hfs=>by
 have:=List.Sublist.length_le (List.sublist_flatten_of_mem hfs)
 (revert h this; lia),by (revert hc c2 c4; lia),by (revert hc c2 c4; lia)⟩
theorem said_of_first {w:Wd} {cnt:Int} (h:FirstOk w) (hi:inR cnt w) (hc:cnt≤4):WordOk 100 w:=by
 obtain ⟨h1,m,h2,h3,h4,h5,_⟩:=h
 unfold inR at hi
 exact ⟨.inr (.inr h1),fun _=>⟨m,h2,h4,h3,h5⟩,fun e=>by (revert h1 e; lia),by (revert hi hc; lia)⟩
theorem oa_law {cnt:Nat} {bfss:List (List Mt)} {s:Mk} {ws:List Wd} {B:Int} (h:MInv cnt bfss s ws) (hw:∀ w∈ws,WordOk B w):∀ k n y,gget (s.as.getD k []) n=some y→MtOk y:=fun k n y e=>by
 by_cases hk:k < cnt
 ·have hn:=h.key k n y e
  have hv:=h.val k hk n
  unfold valOf at hv
  rw [e] at hv
  simp only at hv
  rw [← hn] at hv
  have hm:=(mem_stand (fun w hw'=>by
   intro hk2
   obtain ⟨m,a,_,b,_⟩:=(hw w hw').m hk2
   exact ⟨m,a,b⟩)).mpr hv
  obtain ⟨w,hw',h1,h2,h3⟩:=stand_from hm
  obtain ⟨m,a,b,_⟩:=(hw w hw').m h1
  rw [h3] at a; cases a; exact b
 ·rw [List.getD_eq_getElem?_getD,List.getElem?_eq_none (by have:=h.na; (revert hk this; lia))] at e
  cases e
theorem stand_in {ws:List Wd} {cnt B:Int} (hw:∀ w∈ws,WordOk B w) (hi:∀ w∈ws,inR cnt w):∀ p∈stand ws,(0≤p.1∧p.1 < cnt)∧MtOk p.2∧p.2.s≤B:=fun ⟨l,m⟩ hp=>by
 obtain ⟨w,hw',h1,h2,h3⟩:=stand_from hp
 obtain ⟨m',a,b,_,d⟩:=(hw w hw').m h1
 rw [h3] at a; cases a
 have:=hi w hw'
 unfold inR at this
 subst h2
 exact ⟨this,b,d⟩
theorem WordOk.n {B:Int} {w:Wd} (h:WordOk B w):WdN w:=fun e=>by obtain ⟨m,a,_,b,_⟩:=h.m e; exact ⟨m,a,b⟩
section
variable {c:Ctx} {n:Nat} {σ W:Sto} {Q:KV} {R:Sto→Prop} {H:List (Addr×O)}
theorem law_12 {Φ:Act} (r:RunF Φ (n+11) lawVs (scopeOf 633)) {sa nu o fi hv:Addr} {a b lt bb lf:Int} {cnt:Nat} {fw:List Wd} {oi ol om:Option V} (ha:0≤a) (c2:2≤cnt) (c4:cnt≤4) (hop:OpOk lt bb lf) (hf:Fw W cnt fi fw) (A:At σ W [(o,.inst 305 (optF hv cnt lt bb lf))])
  (rest:∀ (σ' W':Sto) (mk bv bfl io bsc:Addr) (gv sv:V) (bfss:List (List Mt)) (bps:List (Addr×List V)) (b0:Int×Int×Int),W.le W'→BaseS W' cnt fw bfss bps io bsc gv sv b0→At σ' W' (verH bv bfl cnt io bsc b0.2.2 bps++[(o,.inst 305 (optF hv cnt lt bb lf))]) →
   SS Φ (List.drop 19 (bodyOf 633)) [some (.ref sa),none,none,none,none,none,none,none,none,none,none,oi,ol,om,some (.ref nu),some (.int a),some (.int b),some (.int cnt),some (.ref o),some (.ref fi),some (.ref mk),some (.ref bv),some gv,some sv,none,none,none] σ' (LF Q) (kR R)) :
  SS Φ (List.drop 12 (bodyOf 633)) [some (.ref sa),none,none,none,none,none,none,none,none,none,none,oi,ol,om,some (.ref nu),some (.int a),some (.int b),some (.int cnt),some (.ref o),some (.ref fi),none,none,none,none,none,none,none] σ (LF Q) (kR R):=by
 obtain ⟨fvs,hfi,hfr⟩:=hf.rep
 have hfw:∀ w∈fw,WordOk 100 w:=fun w hw=>said_of_first (hf.ok w hw).1 (hf.ok w hw).2 (by (revert c2 c4; lia))
 have hfn:∀ w∈fw,WdN w:=fun w hw=>(hfw w hw).n
 have hgood:good (stand fw):=first_good fun w hw=>(hf.ok w hw).1
 have hin:=stand_in hfw fun w hw=>(hf.ok w hw).2
 have hfl:=hf.len
 -- maker=VersionMaker(Version(count,InternalOrder()))
 walk_at "go"
 refine ok_InternalOrder r.cx A fun σ₁ W₁ io L1 A1 hio=>?_
 walk_at "go"
 refine ok_Version r.cx A1 (nl:=cnt) (by (revert c2 c4; lia)) fun σ₂ W₂ v0 fl0 las sc0 hlas L2 A2 hsc0=>?_
 walk_at "go"
 refine ok_VersionMaker r.cx A2 (nl:=cnt) (by (revert c2 c4 hlas; lia)) (.head _) fun σ₃ mk dl al das aas hdas haas A3=>?_
 refine (let M1:Loc:=_; st_ (M':=M1) rfl ?_)
 have A4:=mk_new A3
 have is4:=mk_is (W:=W₂) hdas haas
 have hio2:=hio.mono L2
 have L02:W.le W₂:=L1.trans' L2
 generalize (das.map fun a=>((a,[]):Addr×List (Int×V)))=ds at A4 is4
 generalize (aas.map fun a=>((a,[]):Addr×List (Int×V)))=as at A4 is4
 clear A3 A2 A1
 -- the words are told
 walk_at "go"
 have hsaid:∀ w∈fw,SaidOk w:=fun w hw=>(hfw w hw).said
 refine ok_law_told r.cx (s:=mk0 cnt) A4 is4 (by (revert hfl; lia)) (by (revert c2 c4 hlas hdas haas; lia)) (by (revert c2 c4 hlas hdas haas; lia)) (.head _) (L02 _ _ hfi) (hfr.mono L02) hsaid fun σ₅ W₅ ds5 as5 L5 A5 is5=>?_
 refine ⟨_,rfl,?_⟩
 refine if_F ?_
 walk_at "s"
 have hinv:MInv cnt (List.replicate cnt []) (told cnt (mk0 cnt) fw) ([]++fw):=(inv_empty cnt).told ⟨[],[],fw,rfl,by simp,by simp,fun w hw=>(hf.ok w hw).1.1⟩ (fun w hw=>(hf.ok w hw).2) hfn
 rw [List.nil_append] at hinv
 have hfin:=fin_law hinv (base_empty cnt) hfn (fun p hp=>(hin p hp).1) (by (revert hfl; lia))
 have hoa:=oa_law hinv hfw
 generalize told cnt (mk0 cnt) fw=s5 at A5 is5 hinv hfin hoa
 -- base=maker.finish()
 walk_at "s"
 walk_at "s"
 refine SE_meth0 r.ok rfl ?_
 walk_at "go"
 refine me0_ r.cx (A5.get (.head _)) rfl ?_
 have hv0:VLs W₅ (las.map fun a=>(a,[])) (List.replicate cnt []):=ver_is hlas
 refine ok_finish (n:=n+3) r.cx (bps:=las.map fun a=>(a,[])) (bfss:=List.replicate cnt []) A5 is5 (by (revert c2 c4 hlas hdas haas; lia)) (fun fs hfs=>by rw [List.eq_of_mem_replicate hfs]; simp) (fun a ha=>by have:=is5.za a ha; (revert hfl this; lia)) (.head _)
  (by rw [show rB (las.map fun a=>((a,[]):Addr×List V))=las.map V.ref by simp [rB,List.map_map]]; exact .tail _ (.head _)) (fun p hp=>by
   obtain ⟨q,hq,rfl⟩:=List.mem_map.mp hp
   exact .tail _ (.tail _ (List.mem_append_left _ (List.mem_map.mpr ⟨q,hq,rfl⟩)))) hv0 (by simp) (hio2.mono L5) (fun fs hfs=>by rw [List.eq_of_mem_replicate hfs]; simp) hoa (fun fss h1 h2=>(hfin fss h1 h2).1)
  (fun fss h1 h2 hc hok σ₆ W₆ bv bfl bsc bps L6 hsc hV A6=>?_) (fun fss h1 h2 hc=>absurd ((hfin fss h1 h2).2.1 hgood).2 hc)
 obtain ⟨hz1,hz2,_⟩:=hfin fss h1 h2
 have hlo:=(hz2 hgood).1
 have hls:=ls_ok hok hz1 hlo.2.1 c2 c4
 refine (let M1:Loc:=_; st_ (M':=M1) rfl ?_)
 have A7:At σ₆ W₆ (verH bv bfl cnt io bsc (-1) bps++[(o,.inst 305 (optF hv cnt lt bb lf))]):=A6.sub (List.Sublist.append_left ((((List.sublist_append_right _ _).trans (List.sublist_cons_self _ _)).trans (List.sublist_cons_self _ _)).trans (List.sublist_append_right _ _)) _)
 clear A6 A5 A4
 have L06:W.le W₆:=L02.trans' (L5.trans' L6)
 -- ground
 walk_at "go"
 refine ok_law_levels r.cx A7 (cnt:=cnt) (L06 _ _ hfi) (hfr.mono L06) (fun w hw=>(hfw w hw).wd) (fun p hp=>(hin p hp).1) (by (revert hfl; lia)) (by (revert c2 c4 hlas hdas haas h1; lia)) fun σ₇ W₇ gv L7 A8 hgv=>?_
 obtain ⟨ls,hls2,hrl⟩:∃ ls,LvOk cnt (stand fw) ls∧Rep W₇ (levD ls) gv:=by
  rcases hgv with ⟨_,h⟩ | h
  ·exact absurd hgood h
  ·exact h
 have:=hls2.unique hlo
 subst this
 refine (let M1:Loc:=_; st_ (M':=M1) rfl ?_)
 have hV7:=hV.mono L7
 obtain ⟨ga,hga⟩:∃ a,gv=.ref a:=by
  obtain ⟨a,_,h,_⟩:=hrl; exact ⟨a,h⟩
 subst hga
 walk_at "s"
 walk_at "s"
 walk_at "s"
 walk_at "s"
 walk_at "s"
 walk_at "s"
 walk_at "s"
 refine cop_is_none ?_
 refine ⟨false,rfl,?_⟩
 refine if_F ?_
 walk_at "go"
 have zls:∀ fs∈ls,fs.length≤1000:=fun fs hfs=>by have:=hls.len fs hfs; (revert this; lia)
 refine ok_law_shows r.cx A8 (las:=bps.map (·.1)) (fss:=ls) (ls:=ls) (A8.get (.head _)) (by rw [← rB_lB]; exact A8.get (.tail _ (.head _))) (hV7.levs A8.le (fun p hp=>A8.get (List.mem_append_left _ (.tail _ (.tail _ (List.mem_map.mpr ⟨p,hp,rfl⟩))))) zls) hrl hok (by rw [List.length_map,hV.1]; (revert c2 c4 hlas hdas haas h1; lia)) (by (revert c2 c4 hlas hdas haas h1; lia)) zls fun σ₈ b1 hb1 A9=>?_
 have:b1=true:=hb1.mpr rfl
 subst this
 refine ⟨_,rfl,?_⟩
 refine if_F ?_
 walk_at "go"
 refine if_F ?_
 walk_at "s"
 -- score=((0,1),-1)
 walk_at "s"
 walk_at "s"
 refine SE_tuple (by simp) ?_
 walk_at "go"
 refine SE_tuple (by simp) ?_
 walk_at "go"
 refine ⟨by simp,fun t1 ht1=>?_⟩
 walk_at "go"
 refine ⟨_,rfl,?_⟩
 walk_at "go"
 refine ⟨by simp,fun t2 ht2=>?_⟩
 have A10:=(A9.newF (o:=.tuple [.int 0,.int 1]) ht1).newF (o:=.tuple [.ref t1,.int (-1)]) ht2
 have L10a:=A9.newle (o:=.tuple [.int 0,.int 1]) ht1
 have L10b:=(A9.newF (o:=.tuple [.int 0,.int 1]) ht1).newle (o:=.tuple [.ref t1,.int (-1)]) ht2
 have hsr0:Rep ((W₇.set t1 (.tuple [.int 0,.int 1])).set t2 (.tuple [.ref t1,.int (-1)])) (scoreD (0,1,-1)) (.ref t2):=by
  exact ⟨t2,_,rfl,Sto.set_same,_,_,rfl,⟨t1,_,rfl,L10b _ _ Sto.set_same,_,_,rfl,rfl,_,_,rfl,rfl,rfl⟩,_,_,rfl,rfl,rfl⟩
 have L10:=L10a.trans' L10b
 refine (let M1:Loc:=_; st_ (M':=M1) rfl ?_)
 generalize (W₇.set t1 (.tuple [.int 0,.int 1])).set t2 (.tuple [.ref t1,.int (-1)])=W₁₀ at A10 L10 hsr0
 generalize (σ₈.set t1 (.tuple [.int 0,.int 1])).set t2 (.tuple [.ref t1,.int (-1)])=σ₁₀ at A10
 have hV10:=hV7.mono L10
 have hrl10:=hrl.mono L10
 -- if a // 1440%2 == 1
 walk_at "go"
 refine div_ (by lia) ?_
 walk_at "go"
 refine mod_ (by lia) ?_
 walk_at "go"
 refine ct_ ?_
 by_cases h14:a / 1440%2=1
 ·refine if_t h14 ?_
  walk_at "go"
  refine ok_law_score r.cx A10 (ls:=ls) (hv:=hv) (nl:=cnt) (lt:=lt) (bb:=bb) (lf:=lf) hrl10 (List.mem_append_right _ (.head _)) hls.n2 hls.n10 hls.len hop.l0 hop.l1 hop.b0 hop.b1 hop.f0 hop.f1 (fun k=>by have:=hls.octs k; (revert this; lia)) fun σ₁₁ W₁₁ sv L11 A11 hsv=>?_
  refine (let M1:Loc:=_; st_ (M':=M1) rfl ?_)
  walk_at "go"
  refine ok_law_scored r.cx A11 (fss:=ls) (.head _) (hV10.mono L11) (hrl10.mono L11) hlo.2.1 hls hop fun σ₁₂ W₁₂ t L12 ht A12=>?_
  refine ⟨_,rfl,?_⟩
  refine if_F ?_
  walk_at "s"
  walk_at "s"
  rw [show ls.length=cnt from hlo.2.1] at hsv
  exact rest σ₁₂ W₁₂ mk bv bfl io t (.ref ga) sv ls bps (best ls lt bb lf (cnt-2)) (L06.trans' (L7.trans' (L10.trans' (L11.trans' L12)))) ⟨hlo,hV10.mono (L11.trans' L12),((hio2.mono L5).mono L6).mono (L7.trans' (L10.trans' (L11.trans' L12))),hrl10.mono (L11.trans' L12),ht,hsv.mono L12,hls,hz1⟩ A12
 ·refine if_f h14 ?_
  walk_at "s"
  exact rest σ₁₀ W₁₀ mk bv bfl io bsc (.ref ga) (.ref t2) ls bps (0,1,-1) (L06.trans' (L7.trans' L10)) ⟨hlo,hV10,((hio2.mono L5).mono L6).mono (L7.trans' L10),hrl10,(L7.trans' L10) _ _ hsc,hsr0,hls,hz1⟩ A10
end
structure MS where
 m:Addr
 dl:Addr
 al:Addr
 wa:Addr
 wl:Addr
 s:Mk
 ds:List (Addr×List (Int×V))
 as:List (Addr×List (Int×V))
 ws:List Wd
 wvs:List V
 wls:List (Int×Int)
noncomputable def msB (b:Addr) (x:MS):List (Addr×O):=(x.wl,.list x.wvs)::mkH x.m b x.dl x.al x.s.dr x.ds x.as
structure MSOk (W:Sto) (cnt:Nat) (bfss:List (List Mt)) (t:Nat) (x:MS):Prop where
 is:MkIs W x.s x.ds x.as cnt (8*t)
 inv:MInv cnt bfss x.s x.ws
 wok:∀ w∈x.ws,WordOk (100+t) w
 wir:∀ w∈x.ws,inR cnt w
 wlen:x.ws.length≤3+8*t
 wds:∃ vs,W x.wa=some (.list vs)∧Reps W (x.ws.map wdD) vs
 wlr:Reps W (x.wls.map endD) x.wvs
 wli:∀ p∈x.wls,0≤p.1∧p.1 < cnt
 wll:x.wls.length≤t
theorem MSOk.mono {W W':Sto} {cnt:Nat} {bfss:List (List Mt)} {t:Nat} {x:MS} (l:W.le W') (h:MSOk W cnt bfss t x):MSOk W' cnt bfss t x :=
 ⟨h.is.mono l,h.inv,h.wok,h.wir,h.wlen,by obtain ⟨vs,a,b⟩:=h.wds; exact ⟨vs,l _ _ a,b.mono l⟩,h.wlr.mono l,h.wli,h.wll⟩
theorem MSOk.up {W:Sto} {cnt:Nat} {bfss:List (List Mt)} {t t':Nat} {x:MS} (ht:t≤t') (h:MSOk W cnt bfss t x):MSOk W cnt bfss t' x :=
 ⟨h.is.le (by (revert ht; lia)),h.inv,fun w hw=>(h.wok w hw).mono (by (revert ht; lia)),h.wir,by have:=h.wlen; (revert ht this; lia),h.wds,h.wlr,h.wli,by have:=h.wll; (revert ht this; lia)⟩
structure En where
 t:Addr
 v:Addr
 fl:Addr
 sc:Addr
 ps:List (Addr×List V)
 ls:List (List Mt)
 lv:V
noncomputable def enB (cnt:Nat) (io:Addr) (e:En):List (Addr×O):=verH e.v e.fl cnt io e.sc (-1) e.ps
structure EnOk (W:Sto) (cnt:Nat) (e:En):Prop where
 tw:W e.t=some (.tuple [.ref e.v,e.lv])
 vl:VLs W e.ps e.ls
 gr:Rep W (levD e.ls) e.lv
 ok:LsOk e.ls
 len:e.ls.length=cnt
theorem EnOk.mono {W W':Sto} {cnt:Nat} {e:En} (l:W.le W') (h:EnOk W cnt e):EnOk W' cnt e:=⟨l _ _ h.tw,h.vl.mono l,h.gr.mono l,h.ok,h.len⟩
theorem VLs.len {W:Sto} {ps:List (Addr×List V)} {ls:List (List Mt)} (h:VLs W ps ls) (hl:∀ fs∈ls,fs.length≤64):∀ p∈ps,p.2.length≤1000:=fun p hp=>by
 obtain ⟨k,hk,rfl⟩:=List.mem_iff_getElem.mp hp
 have e:=List.getElem?_eq_getElem hk
 have r:=h.at e
 rw [r.length,List.length_map]
 have h1:=h.1
 have:=hl (ls.getD k []) (by rw [List.getD_eq_getElem?_getD,List.getElem?_eq_getElem (by (refine' (?_:_→_→_) hk h1; lia))]; exact List.getElem_mem _)
 (revert this; lia)
noncomputable def bgH (bv bfl:Addr) (cnt:Nat) (io bsc:Addr) (sl:Int) (bps:List (Addr×List V)) (o hv:Addr) (lt bb lf:Int):List (Addr×O):=verH bv bfl cnt io bsc sl bps++[(o,.inst 305 (optF hv cnt lt bb lf))]
theorem scoreD_at {W:Sto} {b0:Int×Int×Int} {t2 sc:Addr} (h1:W t2=some (.tuple [.ref sc,.int b0.2.2])) (h2:W sc=some (.tuple [.int b0.1,.int b0.2.1])):Rep W (scoreD b0) (.ref t2):=by
 exact ⟨t2,_,rfl,h1,_,_,rfl,⟨sc,_,rfl,h2,_,_,rfl,rfl,_,_,rfl,rfl,rfl⟩,_,_,rfl,rfl,rfl⟩
section
variable {c:Ctx} {n:Nat} {σ W:Sto} {Q:KV} {R:Sto→Prop} {H:List (Addr×O)}
theorem law_19 {Φ:Act} (r:RunF Φ (n+11) lawVs (scopeOf 633)) {sa nu o fi hv mk bv bfl io bsc:Addr} {a b lt bb lf:Int} {cnt:Nat} {fw:List Wd} {oi ol om:Option V} {gv sv:V} {bfss:List (List Mt)} {bps:List (Addr×List V)} {b0:Int×Int×Int} (c2:2≤cnt) (c4:cnt≤4) (hop:OpOk lt bb lf) (hf:Fw W cnt fi fw)
  (hB:BaseS W cnt fw bfss bps io bsc gv sv b0) (A:At σ W (bgH bv bfl cnt io bsc b0.2.2 bps o hv lt bb lf))
  (rest:∀ (σ' W':Sto) (md mkl wo wil:Addr) (mks:List MS),W.le W'→mks.length=2→W' mkl=some (.list (mks.map fun x=>V.ref x.m))→W' wil=some (.list (mks.map fun x=>V.ref x.wl))→(∀ x∈mks,MSOk W' cnt bfss 0 x) →
   At σ' W' ((md,.list [])::(wo,.list (mks.map fun x=>V.ref x.wa))::(mks.flatMap (msB bv)++(bgH bv bfl cnt io bsc b0.2.2 bps o hv lt bb lf++[]))) →
   SS Φ (List.drop 28 (bodyOf 633)) [some (.ref sa),some (.ref md),none,none,none,none,none,none,none,none,none,oi,ol,om,some (.ref nu),some (.int a),some (.int b),some (.int cnt),some (.ref o),some (.ref fi),some (.ref mk),some (.ref bv),some gv,some sv,some (.ref mkl),some (.ref wo),some (.ref wil)] σ' (LF Q) (kR R)) :
  SS Φ (List.drop 19 (bodyOf 633)) [some (.ref sa),none,none,none,none,none,none,none,none,none,none,oi,ol,om,some (.ref nu),some (.int a),some (.int b),some (.int cnt),some (.ref o),some (.ref fi),some (.ref mk),some (.ref bv),some gv,some sv,none,none,none] σ (LF Q) (kR R):=by
 obtain ⟨fvs,hfi,hfr⟩:=hf.rep
 have hfw:∀ w∈fw,WordOk 100 w:=fun w hw=>said_of_first (hf.ok w hw).1 (hf.ok w hw).2 (by (revert c2 c4; lia))
 have hfn:∀ w∈fw,WdN w:=fun w hw=>(hfw w hw).n
 have hgood:good (stand fw):=hB.lv.1
 have hin:=stand_in hfw fun w hw=>(hf.ok w hw).2
 have hfl:=hf.len
 have hinv:=inv_base hfn hB.lv
 have hfin:=fin_law hinv (lv_base hB.lv) hfn (fun p hp=>(hin p hp).1) (by (revert hfl; lia))
 have hoa:=oa_law hinv hfw
 have zb:∀ fs∈bfss,fs.length≤100:=fun fs hfs=>by have:=hB.ok.len fs hfs; (revert this; lia)
 have zls:∀ fs∈bfss,fs.length≤1000:=fun fs hfs=>by have:=hB.ok.len fs hfs; (revert this; lia)
 have hbl:bfss.length=cnt:=hB.lv.2.1
 unfold bgH at A
 -- made=[]
 walk_at "s"
 walk_at "s"
 refine SE_list ?_
 walk_at "go"
 refine ⟨by simp,fun md0 hmd0=>?_⟩
 have A1:=A.new (o:=.list []) hmd0
 refine (let M1:Loc:=_; st_ (M':=M1) rfl ?_)
 generalize σ.set md0 (.list [])=σ₁ at A1
 clear A hmd0
 -- the finish of a maker who was told nothing
 walk_at "go"
 refine ok_VersionMaker r.cx A1 (nl:=cnt) (by (revert c2 c4 hbl; lia)) (.tail _ (.head _)) fun σ₂ m1 dl al das aas hdas haas A2=>?_
 have A3:=mk_new A2
 have is3:=mk_is (W:=W) hdas haas
 generalize (das.map fun a=>((a,[]):Addr×List (Int×V)))=ds at A3 is3
 generalize (aas.map fun a=>((a,[]):Addr×List (Int×V)))=as at A3 is3
 clear A2 A1
 walk_at "go"
 refine ok_law_finished (s:=mk0 cnt) (n:=n+1) r.cx (A3.perm List.perm_middle) is3 (by (revert c2 c4 hbl hdas haas; lia)) zb (fun a ha=>by have:=is3.za a ha; (revert this; lia)) (.head _) (.tail _ (.head _)) (fun p hp=>.tail _ (.tail _ (List.mem_append_left _ (List.mem_map.mpr ⟨p,hp,rfl⟩)))) hB.vl hbl hB.ord hB.ok.ok hoa hfin (.inr ⟨bfss,hB.lv,hB.gr⟩) (by simp) (fun hng=>absurd hgood hng)
  fun _ fss hlo hok hfl64 hgr σ₄ W₄ t1 v1 fl1 sc1 ps1 L4 hsc1 hV1 ht1 A4=>?_
 have:=hB.lv.unique hlo
 subst this
 refine ⟨_,rfl,?_⟩
 refine if_F ?_
 walk_at "s"
 clear A3
 have hB4:=hB.mono L4
 -- its score
 have A5:At σ₄ W₄ (verH v1 fl1 cnt io sc1 (-1) ps1++((md0,.list ([]++[.ref t1]))::(mkH m1 bv dl al (mk0 cnt).dr ds as++(verH bv bfl cnt io bsc b0.2.2 bps++[(o,.inst 305 (optF hv cnt lt bb lf))])))):=A4.perm List.perm_middle.symm
 clear A4
 have made00:∀ {M:Loc} {p1 p2 p3 p4 p5:Pos} {k1 k2:Nat} {Q':KV} {R':KL} {σ':Sto},σ' md0=some (.list [.ref t1])→σ' t1=some (.tuple [.ref v1,gv])→Q' (.ref v1) σ' →
   SE Φ (.Subscript (.Subscript (.Name (Str.ofString "made") p1) (.Constant (.int 0) k1 p2) p3) (.Constant (.int 0) k2 p4) p5) [some (.ref sa),some (.ref md0),none,none,none,none,none,none,none,none,none,oi,ol,om,some (.ref nu),some (.int a),some (.int b),some (.int cnt),some (.ref o),some (.ref fi),some (.ref mk),some (.ref bv),some gv,some sv,none,none,none] σ' Q' R':=by
  intro M p1 p2 p3 p4 p5 k1 k2 Q' R' σ' h1 h2 hq
  refine E_sub ?_
  refine E_sub ?_
  walk_at "go"
  refine ⟨.ref t1,.list h1 (by lia) (by lia) rfl,?_⟩
  walk_at "go"
  exact ⟨.ref v1,.tuple h2 (by lia) (by lia) rfl,hq⟩
 walk_at "s"
 walk_at "s"
 walk_at "s"
 walk_at "s"
 walk_at "s"
 walk_at "s"
 refine made00 (M:=[]) (A5.get (List.mem_append_right _ (.head _))) (A5.fz ht1) ?_
 walk_at "go"
 refine ok_law_scored (n:=n+5) r.cx A5 (fss:=bfss) (hv:=hv) (lt:=lt) (bb:=bb) (lf:=lf) (.tail _ (List.mem_append_right _ (List.mem_append_right _ (.head _)))) hV1 hB4.gr hbl hB.ok hop fun σ₆ W₆ ts L6 hts A6=>?_
 refine ⟨_,rfl,?_⟩
 refine if_F ?_
 walk_at "s"
 clear A5
 have hB6:=hB4.mono L6
 -- it is spoilt
 walk_at "s"
 refine X_ex ?_
 walk_at "s"
 walk_at "s"
 refine made00 (M:=[]) (A6.get (List.mem_append_right _ (.head _))) (A6.fz (L6 _ _ ht1)) ?_
 walk_at "go"
 refine ok_law_spoil (n:=n+7) r.cx (ps:=ps1) (by unfold verH rB lB at A6; exact A6) (hV1.len hB.ok.len) fun σ₇ W₇ L7 A7=>?_
 clear A6
 have hB7:=hB6.mono L7
 have L07:W.le W₇:=L4.trans' (L6.trans' L7)
 have A8:At σ₇ W₇ (verH bv bfl cnt io bsc b0.2.2 bps++[(o,.inst 305 (optF hv cnt lt bb lf))]):=A7.sub ((List.sublist_append_right _ _).trans (List.sublist_cons_self _ _))
 clear A7
 -- the base is as it was
 walk_at "go"
 refine ok_law_shows (n:=n+8) r.cx A8 (las:=bps.map (·.1)) (fss:=bfss) (ls:=bfss) (A8.get (.head _)) (by rw [← rB_lB]; exact A8.get (.tail _ (.head _))) (hB7.vl.levs A8.le (fun p hp=>A8.get (List.mem_append_left _ (.tail _ (.tail _ (List.mem_map.mpr ⟨p,hp,rfl⟩))))) zls) hB7.gr hB.ok.ok (by rw [List.length_map,hB.vl.1]; (revert c2 c4 hbl hdas haas; lia)) (by (revert c2 c4 hbl hdas haas; lia)) zls fun σ₈ b1 hb1 A9=>?_
 have:b1=true:=hb1.mpr rfl
 subst this
 refine ⟨_,rfl,?_⟩
 refine if_F ?_
 walk_at "s"
 walk_at "s"
 refine SE_tuple (by simp) ?_
 walk_at "s"
 refine E_at ?_
 walk_at "go"
 refine at_ r.cx (A9.get (.head _)) rfl ?_
 walk_at "s"
 refine E_at ?_
 walk_at "go"
 refine at_ r.cx (A9.get (.head _)) rfl ?_
 walk_at "go"
 refine ⟨by simp,fun t2 ht2=>?_⟩
 have A10:=A9.newF (o:=.tuple [.ref bsc,.int b0.2.2]) ht2
 have L10:=A9.newle (o:=.tuple [.ref bsc,.int b0.2.2]) ht2
 have hsr:=scoreD_at (W:=W₇.set t2 (.tuple [.ref bsc,.int b0.2.2])) (b0:=b0) (t2:=t2) (sc:=bsc) Sto.set_same (L10 _ _ hB7.sc)
 walk_at "go"
 refine cop_ne_rep (bb:=true) r.ok 2 (by lia) (by simp [scoreD]) (hsr.mono A10.le) ((hB7.mono L10).sr.mono A10.le) (by simp) ?_
 refine ⟨false,rfl,?_⟩
 refine if_F ?_
 walk_at "s"
 refine if_F ?_
 walk_at "s"
 have hB10:=hB7.mono L10
 have L010:=L07.trans' L10
 generalize σ₈.set t2 (.tuple [.ref bsc,.int b0.2.2])=σ₁₀ at A10
 generalize W₇.set t2 (.tuple [.ref bsc,.int b0.2.2])=W₁₀ at A10 hB10 L010 L10
 clear A9 A8 hsr
 -- made=[]
 walk_at "s"
 walk_at "s"
 refine SE_list ?_
 walk_at "go"
 refine ⟨by simp,fun md hmd=>?_⟩
 have A11:=A10.new (o:=.list []) hmd
 refine (let M1:Loc:=_; st_ (M':=M1) rfl ?_)
 generalize σ₁₀.set md (.list [])=σ₁₁ at A11
 clear A10 hmd
 -- two makers
 walk_at "s"
 walk_at "s"
 refine SE_list ?_
 walk_at "go"
 refine ok_VersionMaker (n:=n+8) r.cx A11 (nl:=cnt) (by (revert c2 c4 hbl hdas haas; lia)) (.tail _ (.head _)) fun σ₁₂ m0 dl0 al0 das0 aas0 hdas0 haas0 A12=>?_
 have A13:=mk_new A12
 have is13:=mk_is (W:=W₁₀) hdas0 haas0
 generalize (das0.map fun a=>((a,[]):Addr×List (Int×V)))=ds0 at A13 is13
 generalize (aas0.map fun a=>((a,[]):Addr×List (Int×V)))=as0 at A13 is13
 clear A12 A11
 walk_at "go"
 refine ok_VersionMaker (n:=n+8) r.cx A13 (nl:=cnt) (by (revert c2 c4 hbl hdas haas hdas0 haas0; lia)) (List.mem_append_right _ (.tail _ (.head _))) fun σ₁₄ m2 dl2 al2 das2 aas2 hdas2 haas2 A14=>?_
 have A15:=mk_new A14
 have is15:=mk_is (W:=W₁₀) hdas2 haas2
 generalize (das2.map fun a=>((a,[]):Addr×List (Int×V)))=ds2 at A15 is15
 generalize (aas2.map fun a=>((a,[]):Addr×List (Int×V)))=as2 at A15 is15
 clear A14 A13
 walk_at "go"
 refine ⟨by simp,fun mkl hmkl=>?_⟩
 have A16:=A15.newF (o:=.list [.ref m0,.ref m2]) hmkl
 have L16:=A15.newle (o:=.list [.ref m0,.ref m2]) hmkl
 have hmkW:(W₁₀.set mkl (.list [.ref m0,.ref m2])) mkl=some (.list [.ref m0,.ref m2]):=Sto.set_same
 refine (let M1:Loc:=_; st_ (M':=M1) rfl ?_)
 generalize σ₁₄.set mkl (.list [.ref m0,.ref m2])=σ₁₆ at A16
 generalize W₁₀.set mkl (.list [.ref m0,.ref m2])=W₁₆ at A16 L16 hmkW
 clear A15 hmkl
 have L016:=L010.trans' L16
 -- the words
 walk_at "s"
 walk_at "s"
 refine SE_list ?_
 walk_at "go"
 refine c_list_list (A16.fz (L016 _ _ hfi)) (by have:=hfr.length; rw [List.length_map] at this; (revert hfl this; lia)) fun w0 hw0=>?_
 have A17:=A16.newF (o:=.list fvs) hw0
 have L17:=A16.newle (o:=.list fvs) hw0
 have hw0W:(W₁₆.set w0 (.list fvs)) w0=some (.list fvs):=Sto.set_same
 generalize σ₁₆.set w0 (.list fvs)=σ₁₇ at A17
 generalize W₁₆.set w0 (.list fvs)=W₁₇ at A17 L17 hw0W
 clear A16 hw0
 walk_at "go"
 refine c_list_list (A17.fz (L17 _ _ (L016 _ _ hfi))) (by have:=hfr.length; rw [List.length_map] at this; (revert hfl this; lia)) fun w2 hw2=>?_
 have A18:=A17.newF (o:=.list fvs) hw2
 have L18:=A17.newle (o:=.list fvs) hw2
 have hw2W:(W₁₇.set w2 (.list fvs)) w2=some (.list fvs):=Sto.set_same
 generalize σ₁₇.set w2 (.list fvs)=σ₁₈ at A18
 generalize W₁₇.set w2 (.list fvs)=W₁₈ at A18 L18 hw2W
 clear A17 hw2
 walk_at "go"
 refine ⟨by simp,fun wo hwo=>?_⟩
 have A19:=A18.new (o:=.list [.ref w0,.ref w2]) hwo
 refine (let M1:Loc:=_; st_ (M':=M1) rfl ?_)
 generalize σ₁₈.set wo (.list [.ref w0,.ref w2])=σ₁₉ at A19
 clear A18 hwo
 -- the wild ones
 walk_at "s"
 walk_at "s"
 refine SE_list ?_
 walk_at "s"
 refine SE_list ?_
 walk_at "go"
 refine ⟨by simp,fun l0 hl0=>?_⟩
 have A20:=A19.new (o:=.list []) hl0
 generalize σ₁₉.set l0 (.list [])=σ₂₀ at A20
 clear A19 hl0
 walk_at "s"
 refine SE_list ?_
 walk_at "go"
 refine ⟨by simp,fun l2 hl2=>?_⟩
 have A21:=A20.new (o:=.list []) hl2
 generalize σ₂₀.set l2 (.list [])=σ₂₁ at A21
 clear A20 hl2
 walk_at "go"
 refine ⟨by simp,fun wil hwil=>?_⟩
 have A22:=A21.newF (o:=.list [.ref l0,.ref l2]) hwil
 have L22:=A21.newle (o:=.list [.ref l0,.ref l2]) hwil
 have hwilW:(W₁₈.set wil (.list [.ref l0,.ref l2])) wil=some (.list [.ref l0,.ref l2]):=Sto.set_same
 refine (let M1:Loc:=_; st_ (M':=M1) rfl ?_)
 generalize σ₂₁.set wil (.list [.ref l0,.ref l2])=σ₂₂ at A22
 generalize W₁₈.set wil (.list [.ref l0,.ref l2])=W₂₂ at A22 L22 hwilW
 clear A21 hwil
 have LL:W.le W₂₂:=L016.trans' (L17.trans' (L18.trans' L22))
 have inv0:∀ (m dl al wa wl:Addr) (ds as:List (Addr×List (Int×V))),MkIs W₁₀ (mk0 cnt) ds as cnt 0→W₂₂ wa=some (.list fvs)→MSOk W₂₂ cnt bfss 0 ⟨m,dl,al,wa,wl,mk0 cnt,ds,as,fw,[],[]⟩:=fun m dl al wa wl ds as h1 h2 =>
  ⟨h1.mono (L16.trans' (L17.trans' (L18.trans' L22))),hinv,fun w hw=>(hfw w hw),fun w hw=>(hf.ok w hw).2,by simp only; (revert hfl; lia),⟨fvs,h2,hfr.mono LL⟩,rfl,by simp,by simp⟩
 refine rest σ₂₂ W₂₂ md mkl wo wil [⟨m0,dl0,al0,w0,l0,mk0 cnt,ds0,as0,fw,[],[]⟩,⟨m2,dl2,al2,w2,l2,mk0 cnt,ds2,as2,fw,[],[]⟩] LL rfl ((L17.trans' (L18.trans' L22)) _ _ hmkW) hwilW (fun x hx=>?_) ?_
 ·simp only [List.mem_cons,List.not_mem_nil,or_false] at hx
  rcases hx with rfl | rfl
  ·exact inv0 _ _ _ _ _ _ _ is13 ((L18.trans' L22) _ _ hw0W)
  ·exact inv0 _ _ _ _ _ _ _ is15 (L22 _ _ hw2W)
 ·refine A22.perm (perm_ct fun p=>?_)
  simp only [mk0,msB,bgH,List.flatMap_cons,List.flatMap_nil,List.countP_append,List.countP_cons,List.countP_nil,List.map_cons,List.map_nil,List.append_nil]
  lia
end
theorem concat2 {α:Type} {l:List α} (h:2≤l.length):∃ l0 a b,l=l0++[a,b]:=by
 rcases List.eq_nil_or_concat l with rfl | ⟨l1,b,rfl⟩
 ·simp at h
 ·rcases List.eq_nil_or_concat l1 with rfl | ⟨l0,a,rfl⟩
  ·simp at h
  ·exact ⟨l0,a,b,by simp⟩
section
variable {c:Ctx} {n:Nat} {σ W:Sto} {Q:KV} {R:Sto→Prop} {H:List (Addr×O)}
theorem law_28 {Φ:Act} (r:RunF Φ (n+11) lawVs (scopeOf 633)) {sa nu o fi hv mk bv bfl io bsc md mkl wo wil:Addr} {ns:List Int} {a b lt bb lf:Int} {cnt:Nat} {fw:List Wd} {oi ol om:Option V} {gv sv:V} {bfss:List (List Mt)} {bps:List (Addr×List V)} {b0:Int×Int×Int} {mks:List MS} (hns:Nums W nu ns) (c2:2≤cnt) (c4:cnt≤4)
  (hB:BaseS W cnt fw bfss bps io bsc gv sv b0) (hm2:mks.length=2) (hmk:W mkl=some (.list (mks.map fun x=>V.ref x.m))) (hwil:W wil=some (.list (mks.map fun x=>V.ref x.wl))) (hms:∀ x∈mks,MSOk W cnt bfss 0 x)
  (A:At σ W ((md,.list [])::(wo,.list (mks.map fun x=>V.ref x.wa))::(mks.flatMap (msB bv)++(bgH bv bfl cnt io bsc b0.2.2 bps o hv lt bb lf++[]))))
  (rest:∀ (σ' W':Sto) (md:Addr) (mks:List MS) (es:List En) (o18 o19 o20 o21 o22 o23 o24 o25:Option V),W.le W'→mks.length=2→W' mkl=some (.list (mks.map fun x=>V.ref x.m))→(∀ x∈mks,MSOk W' cnt bfss 7 x)→(∀ e∈es,EnOk W' cnt e)→es.length≤30 →
   At σ' W' ((md,.list (es.map fun e=>V.ref e.t))::(wo,.list (mks.map fun x=>V.ref x.wa))::(mks.flatMap (msB bv)++(bgH bv bfl cnt io bsc b0.2.2 bps o hv lt bb lf++es.flatMap (enB cnt io)))) →
   SS Φ (List.drop 29 (bodyOf 633)) [some (.ref sa),some (.ref md),o18,o19,o20,o21,o22,o23,o24,o25,none,oi,ol,om,some (.ref nu),some (.int a),some (.int b),some (.int cnt),some (.ref o),some (.ref fi),some (.ref mk),some (.ref bv),some gv,some sv,some (.ref mkl),some (.ref wo),some (.ref wil)] σ' (LF Q) (kR R)) :
  SS Φ (List.drop 28 (bodyOf 633)) [some (.ref sa),some (.ref md),none,none,none,none,none,none,none,none,none,oi,ol,om,some (.ref nu),some (.int a),some (.int b),some (.int cnt),some (.ref o),some (.ref fi),some (.ref mk),some (.ref bv),some gv,some sv,some (.ref mkl),some (.ref wo),some (.ref wil)] σ (LF Q) (kR R):=by
 let TL:Loc:=[oi,ol,om,some (.ref nu),some (.int a),some (.int b),some (.int cnt),some (.ref o),some (.ref fi),some (.ref mk),some (.ref bv),some gv,some sv,some (.ref mkl),some (.ref wo),some (.ref wil)]
 have hnl:=hns.len
 have zb:∀ fs∈bfss,fs.length≤100:=fun fs hfs=>by have:=hB.ok.len fs hfs; (revert this; lia)
 have hbl:bfss.length=cnt:=hB.lv.2.1
 walk_at "s"
 refine X_forr ?_
 walk_at "go"
 refine b_len_list (A.fz hns.at_) (by simp; (revert hnl; lia)) ?_
 rw [List.length_map]
 walk_at "go"
 refine b_min2 (r.ok.hand (Nat.succ_ne_zero _)) ?_
 walk_at "go"
 refine div_ (by lia) ?_
 refine bo_ ?_
 obtain ⟨T,hT⟩:∃ T:Nat,3+(if (9:Int) < (ns.length:Int) then 9 else (ns.length:Int)) / 2=T:=⟨(3+(if (9:Int) < (ns.length:Int) then 9 else (ns.length:Int)) / 2).toNat,by split <;> lia⟩
 rw [hT]
 have hT7:T≤7:=by
  split at hT
  ·(revert hT; lia)
  ·rename_i h; (revert hT hnl h; lia)
 refine ⟨T,rfl,by (revert hT7; lia),by (revert hT7; lia),?_⟩
 suffices main:∀ (k j:Nat) (W₁ σ₁:Sto) (md:Addr) (mks:List MS) (es:List En) (o18 o19 o20 o21 o22 o23 o24 o25:Option V),T-j=k→j≤T→W.le W₁→mks.length=2→W₁ mkl=some (.list (mks.map fun x=>V.ref x.m))→W₁ wil=some (.list (mks.map fun x=>V.ref x.wl))→(∀ x∈mks,MSOk W₁ cnt bfss j x)→(∀ e∈es,EnOk W₁ cnt e)→es.length≤3*j →
   At σ₁ W₁ ((md,.list (es.map fun e=>V.ref e.t))::(wo,.list (mks.map fun x=>V.ref x.wa))::(mks.flatMap (msB bv)++(bgH bv bfl cnt io bsc b0.2.2 bps o hv lt bb lf++es.flatMap (enB cnt io)))) →
   ForG Φ _ _ (fun _=>True) _ _ (rng j T) (some (.ref sa)::some (.ref md)::o18::o19::o20::o21::o22::o23::o24::o25::none::TL) σ₁ from
  main _ 0 W σ md mks [] none none none none none none none none rfl (by (revert hT7; lia)) (Sto.le_refl _) hm2 hmk hwil hms (by simp) (by simp) A
 clear A hms hwil hmk hm2 mks md
 intro k
 induction k with
 | zero =>
  intro j W₁ σ₁ md mks es o18 o19 o20 o21 o22 o23 o24 o25 hk hj hW hm2 hmk hwil hms hes hel A
  have hjT:j=T:=by (revert hk hj; lia)
  subst hjT
  rw [rng_nil (by lia)]
  refine ⟨trivial,?_⟩
  exact rest σ₁ W₁ md mks es o18 o19 o20 o21 o22 o23 o24 o25 hW hm2 hmk (fun x hx=>(hms x hx).up hT7) hes (by (revert hel hT hT7; lia)) A
 | succ k ih =>
  intro j W₁ σ₁ md mks es o18 o19 o20 o21 o22 o23 o24 o25 hk hj hW hm2 hmk hwil hms hes hel A
  rw [rng_cons (by (revert hk hj; lia))]
  refine ⟨trivial,?_⟩
  refine (let M1:Loc:=_; let F1:KF:=_; SG_n (M':=M1) (K:=kSb _ _ F1 _) r.toRun rfl ?_)
  have hj7:j < 7:=by (revert hT7 hk hj; lia)
  -- x,m,what
  walk_at "go"
  refine bo_ ?_
  walk_at "go"
  refine ok_law_draw r.cx (A.fz (hW _ _ hns.at_)) hns.pos (by (revert hnl; lia)) (by (revert hj7; lia)) ?_
  have hx0:=draw_nn hns.nn hns.pos (i:=2+(j:Int)) (by (revert hj7; lia))
  generalize draw ns (2+(j:Int))=x at hx0
  refine (let M1:Loc:=_; st_ (M':=M1) rfl ?_)
  walk_at "go"
  refine bo_ ?_
  walk_at "go"
  refine mod_ (by lia) ?_
  obtain ⟨mi,hmi⟩:∃ mi:Nat,(x+(j:Int))%2=mi:=⟨((x+(j:Int))%2).toNat,by lia⟩
  rw [hmi]
  have hmi2:mi < 2:=by (revert hmi; lia)
  refine (let M1:Loc:=_; st_ (M':=M1) rfl ?_)
  walk_at "go"
  refine div_ (by lia) ?_
  walk_at "go"
  refine mul_ (.of_left (by decide)) ?_
  refine bo_ ?_
  walk_at "go"
  refine bo_ ?_
  walk_at "go"
  refine mod_ (by lia) ?_
  generalize (x / 2+4*(j:Int)+2)%6=what
  refine (let M1:Loc:=_; st_ (M':=M1) rfl ?_)
  -- the maker of this turn
  obtain ⟨y,ey⟩:∃ y,mks[mi]?=some y:=⟨_,List.getElem?_eq_getElem (by (revert hm2 hmi; lia))⟩
  have hy:=hms y (List.mem_of_getElem? ey)
  obtain ⟨esp1,esp2⟩:=split_at ey
  let G:List En→List (Addr×O):=fun es=>(mks.take mi).flatMap (msB bv)++((mks.drop (mi+1)).flatMap (msB bv)++(bgH bv bfl cnt io bsc b0.2.2 bps o hv lt bb lf++es.flatMap (enB cnt io)))
  let Fm:Sto→Sto→Addr→List V→MS→List En→Prop:=fun σ' W' md mdl y' es=>At σ' W' (mkH y'.m bv y'.dl y'.al y'.s.dr y'.ds y'.as++((md,.list mdl)::(wo,.list ((mks.map fun x=>V.ref x.wa).set mi (V.ref y'.wa)))::(y'.wl,.list y'.wvs)::G es))
  have A1:Fm σ₁ W₁ md (es.map fun e=>V.ref e.t) y es:=by
   have e0:(mks.map fun x=>V.ref x.wa).set mi (V.ref y.wa)=mks.map fun x=>V.ref x.wa:=by
    have:(mks.map fun x=>V.ref x.wa).set mi (V.ref y.wa)=(mks.set mi y).map fun x=>V.ref x.wa:=by rw [List.map_set]
    rw [this,esp2,← esp1]
   show At _ _ _
   rw [e0]
   refine A.perm (perm_ct fun p=>?_)
   have ef:mks.flatMap (msB bv)=(mks.take mi).flatMap (msB bv)++(msB bv y++(mks.drop (mi+1)).flatMap (msB bv)):=by
    conv=>lhs; rw [esp1]
    rw [List.flatMap_append,List.flatMap_cons]
   rw [ef]
   simp only [G,msB,List.countP_append,List.countP_cons]
   lia
  have emk:∀ {W' σ':Sto},W₁.le W'→W'.le σ'→Sub σ' (.ref mkl) (.int mi) (.ref y.m):=fun l l'=>.list (l' _ _ (l _ _ hmk)) (by (revert hmi; lia)) (by (revert hmi; lia)) (by simp [ey])
  have ewl:∀ {W' σ':Sto},W₁.le W'→W'.le σ'→Sub σ' (.ref wil) (.int mi) (.ref y.wl):=fun l l'=>.list (l' _ _ (l _ _ hwil)) (by (revert hmi; lia)) (by (revert hmi; lia)) (by simp [ey])
  have ewo:∀ {W' σ':Sto} {md:Addr} {mdl:List V} {y':MS} {es:List En},Fm σ' W' md mdl y' es→Sub σ' (.ref wo) (.int mi) (.ref y'.wa):=fun A' =>
   .list (At.get A' (List.mem_append_right _ (.tail _ (.head _)))) (by (revert hmi; lia)) (by (revert hmi; lia)) (by rw [Int.toNat_natCast,List.getElem?_set_self (by rw [List.length_map]; (revert hm2 hmi; lia))])
  have eb:∀ {md:Addr} {mdl:List V} {y':MS} {es:List En} {q:Addr×O},q∈bgH bv bfl cnt io bsc b0.2.2 bps o hv lt bb lf→q∈((md,O.list mdl)::(wo,O.list ((mks.map fun x=>V.ref x.wa).set mi (V.ref y'.wa)))::(y'.wl,O.list y'.wvs)::G es):=fun h =>
   .tail _ (.tail _ (.tail _ (List.mem_append_right _ (List.mem_append_right _ (List.mem_append_left _ h)))))
  clear A
  have hyl:=hy.wlen
  obtain ⟨yvs,hyv,hyr⟩:=hy.wds
  -- said
  walk_at "go"
  refine bop_int ?_ (by simp)
  dsimp only [bop]
  refine ⟨by lia,?_⟩
  walk_at "go"
  refine E_sub ?_
  walk_at "go"
  refine ⟨_,ewo A1,?_⟩
  walk_at "go"
  refine E_sub ?_
  walk_at "go"
  refine ⟨_,ewl (Sto.le_refl _) (At.le A1),?_⟩
  walk_at "go"
  have hyll:=hy.wll
  refine ok_law_said (n:=n+6) (what:=what) (v:=x / 12) (t:=(j:Int)) r.cx A1 (B:=100+j) hyv hyr hy.wok (stand_in hy.wok hy.wir) (List.mem_append_right _ (.tail _ (.tail _ (.head _)))) hy.wlr hy.wli (by (revert hj7 hmi hyll; lia)) (by (revert hj7 hmi hyl; lia)) (by (revert hx0; lia)) c2 c4 (by (revert hj7 hmi; lia)) (by (revert hj7 hmi; lia)) (by (revert hj7 hmi; lia)) (by (revert hj7 hmi; lia)) fun σ₂ W₂ sd svs said L2 A2 hsd hsr hsaid=>?_
  refine (let M1:Loc:=_; st_ (M':=M1) rfl ?_)
  have hsl:=hsaid.len
  have hssaid:∀ w∈said,SaidOk w:=fun w hw=>(hsaid.ok w hw).said
  have hy2:=hy.mono L2
  -- told
  walk_at "s"
  walk_at "s"
  walk_at "s"
  walk_at "s"
  walk_at "s"
  walk_at "s"
  refine E_sub ?_
  walk_at "go"
  refine ⟨_,emk L2 (At.le A2),?_⟩
  walk_at "go"
  refine ok_law_told (n:=n+5) r.cx A2 hy2.is (by (revert hj7 hmi hsl; lia)) (by (revert c2 c4 hbl; lia)) (by (revert c2 c4 hbl; lia)) (eb (.head _)) hsd hsr hssaid fun σ₃ W₃ ds3 as3 L3 A3 is3=>?_
  refine ⟨_,rfl,?_⟩
  refine if_F ?_
  walk_at "s"
  have L13:=L2.trans' L3
  have hy3:=hy.mono L13
  have hsr3:=hsr.mono L3
  have hsd3:=L3 _ _ hsd
  have hB3:=hB.mono (hW.trans' L13)
  have hsvl:svs.length=said.length:=by rw [hsr.length,List.length_map]
  have hyvl:yvs.length=y.ws.length:=by rw [hyr.length,List.length_map]
  have A3':Fm σ₃ W₃ md (es.map fun e=>V.ref e.t) { y with s:=told cnt y.s said,ds:=ds3,as:=as3 } es:=A3
  clear A1 A2 A3
  -- if what != 4
  let ML:Loc:=(some (.ref sa)::some (.ref md)::some (.int j)::some (.int x)::some (.int mi)::some (.int what)::some (.ref sd)::o23::o24::o25::none::TL)
  let F1:KF:=fun f M' σ'=>f=.next∧M'=ML∧∃ W' y',W₃.le W'∧y'.m=y.m∧y'.wl=y.wl∧y'.wls.length≤j∧MSOk W' cnt bfss (j+1) y'∧Fm σ' W' md (es.map fun e=>V.ref e.t) y' es
  refine SS_cons (SX.mono (F:=F1) ?_ ?_)
  ·walk_at "s"
   walk_at "go"
   refine ct_ ?_
   by_cases h4:what=4
   ·refine if_nf h4 ?_
    walk_at "s"
    have et:told cnt y.s said=y.s:=by unfold told; rw [hsaid.bad h4]; rfl
    refine ⟨rfl,rfl,W₃,{ y with s:=told cnt y.s said,ds:=ds3,as:=as3 },Sto.le_refl _,rfl,rfl,hyll,⟨is3.le (by (revert hsl hsvl; lia)),by simp only; rw [et]; exact hy.inv,fun w hw=>(hy.wok w hw).mono (by lia),hy.wir,by simp only; (revert hmi hyl hyvl; lia),hy3.wds,hy3.wlr,hy.wli,by simp only; (revert hmi hyll; lia)⟩,A3'⟩
   ·refine if_nt h4 ?_
    walk_at "s"
    refine SX_setitem rfl ?_
    walk_at "s"
    refine E_sub ?_
    walk_at "go"
    refine ⟨_,ewo A3',?_⟩
    walk_at "go"
    refine bop_lists ⟨yvs,svs,At.fz A3' (L13 _ _ hyv),At.fz A3' hsd3,by (revert hj7 hmi hyl hsl hsvl hyvl; lia),fun cw hcw=>?_⟩
    have A4:=At.newF (o:=.list (yvs++svs)) A3' hcw
    have L4:=At.newle (o:=.list (yvs++svs)) A3' hcw
    have hcW:(W₃.set cw (.list (yvs++svs))) cw=some (.list (yvs++svs)):=Sto.set_same
    generalize σ₃.set cw (.list (yvs++svs))=σ₄ at A4
    generalize W₃.set cw (.list (yvs++svs))=W₄ at A4 L4 hcW
    walk_at "go"
    refine ⟨wo,_,rfl,rfl,.inr ⟨_,A4.get (List.mem_append_right _ (.tail _ (.head _))),by (revert hmi; lia),by rw [List.length_set,List.length_map]; (revert hm2 hmi; lia),by rw [List.length_set,List.length_map]; (revert hm2; lia),?_⟩⟩
    rw [Int.toNat_natCast,List.set_set]
    have A5:=At.mid (P:=mkH y.m bv y.dl y.al (told cnt y.s said).dr ds3 as3++[(md,.list (es.map fun e=>V.ref e.t))]) (a:=wo) (o':=.list ((mks.map fun x=>V.ref x.wa).set mi (V.ref cw))) (X:=(y.wl,.list y.wvs)::G es) (by rw [List.append_assoc]; exact A4)
    rw [List.append_assoc] at A5
    walk_at "s"
    refine ⟨rfl,rfl,W₄,{ y with s:=told cnt y.s said,ds:=ds3,as:=as3,ws:=y.ws++said,wa:=cw },L4,rfl,rfl,hyll,⟨(is3.le (by (revert hsl hsvl; lia))).mono L4,hy.inv.told hsaid.ord (hsaid.inr h4) (fun w hw=>(hsaid.ok w hw).n),fun w hw=>?_,fun w hw=>?_,by simp only [List.length_append]; (revert hmi hyl hsl hsvl hyvl; lia),⟨yvs++svs,hcW,?_⟩,(hy3.mono L4).wlr,hy.wli,by simp only; (revert hmi hyll; lia)⟩,A5⟩
    ·rcases List.mem_append.mp hw with hw | hw
     ·exact (hy.wok w hw).mono (by lia)
     ·exact (hsaid.ok w hw).mono (by lia)
    ·rcases List.mem_append.mp hw with hw | hw
     ·exact hy.wir w hw
     ·exact hsaid.inr h4 w hw
    ·simp only [List.map_append]
     exact (hyr.mono (L13.trans' L4)).append (hsr3.mono L4)
  rintro f M' σ₄ ⟨rfl,rfl,W₄,y4,L34,em4,ewl4,hwll4,hy4,A4⟩
  clear A3' hy3
  have L14:=L13.trans' L34
  -- if what == 3
  let F1:KF:=fun f M' σ'=>f=.next∧M'=ML∧∃ W' y',W₄.le W'∧y'.m=y.m∧y'.wl=y.wl∧MSOk W' cnt bfss (j+1) y'∧Fm σ' W' md (es.map fun e=>V.ref e.t) y' es
  refine SS_cons (SX.mono (F:=F1) ?_ ?_)
  ·walk_at "s"
   walk_at "go"
   refine ct_ ?_
   by_cases h3:what=3
   ·refine if_t h3 ?_
    obtain ⟨w,hw1⟩:=hsaid.one h3
    subst hw1
    obtain ⟨p,ra,e1,hp,hra⟩:=list_more (f:=wdD) (todo:=[w]) (rest:=svs.tail) (v:=svs.headD .none) (by
     cases svs with
     | nil=>simp at hsvl
     | cons u us=>exact hsr3)
    cases e1
    have hsv:svs=[svs.headD .none]:=len1d _ hsvl
    obtain ⟨wb,wmv,ewb,hwb,_⟩:=rep_wd.mp hp
    rw [ewb] at hsv
    have hsd4:W₄ sd=some (.list [.ref wb]):=by rw [← hsv]; exact L34 _ _ hsd3
    have said0:∀ {M:Loc} {kk:Int} {p1 p2 p3 p4 p5:Pos} {k1 k2:Nat} {u:V} {Q':KV} {R':KL},0≤kk→kk < 4→([V.int w.k,V.int w.l,V.int w.n,wmv]:List V)[kk.toNat]?=some u→Q' u σ₄ →
      SE Φ (.Subscript (.Subscript (.Name (Str.ofString "said") p1) (.Constant (.int 0) k1 p2) p3) (.Constant (.int kk) k2 p4) p5) ML σ₄ Q' R':=by
     intro M kk p1 p2 p3 p4 p5 k1 k2 u Q' R' h0 h1 hu hq
     refine E_sub ?_
     refine E_sub ?_
     walk_at "go"
     refine ⟨.ref wb,.list (At.fz A4 hsd4) (by lia) (by lia) rfl,?_⟩
     walk_at "go"
     exact ⟨u,.tuple (At.fz A4 (L34 _ _ hwb)) h0 (by (revert h0 h1; lia)) hu,hq⟩
    walk_at "s"
    refine X_ex ?_
    refine E_app ?_
    refine E_sub ?_
    walk_at "go"
    refine ⟨_,ewl L14 (At.le A4),?_⟩
    refine ⟨y.wl,y4.wvs,rfl,by rw [← ewl4]; exact At.get A4 (List.mem_append_right _ (.tail _ (.tail _ (.head _)))),?_⟩
    walk_at "go"
    refine SE_tuple (by simp) ?_
    walk_at "go"
    refine said0 (M:=[]) (u:=.int w.l) (by lia) (by lia) rfl ?_
    walk_at "go"
    refine said0 (M:=[]) (u:=.int w.n) (by lia) (by lia) rfl ?_
    walk_at "go"
    refine ⟨by simp,fun tw htw=>?_⟩
    have A5:=At.newF (o:=.tuple [.int w.l,.int w.n]) A4 htw
    have L5:=At.newle (o:=.tuple [.int w.l,.int w.n]) A4 htw
    have htW:(W₄.set tw (.tuple [.int w.l,.int w.n])) tw=some (.tuple [.int w.l,.int w.n]):=Sto.set_same
    generalize σ₄.set tw (.tuple [.int w.l,.int w.n])=σ₅ at A5
    generalize W₄.set tw (.tuple [.int w.l,.int w.n])=W₅ at A5 L5 htW
    walk_at "go"
    have hwvl:y4.wvs.length=y4.wls.length:=by rw [hy4.wlr.length,List.length_map]
    refine l_append (by rw [← ewl4]; exact A5.get (List.mem_append_right _ (.tail _ (.tail _ (.head _))))) (by (revert hj7 hmi hwll4 hwvl; lia)) ?_
    have A6:=At.mid (P:=mkH y4.m bv y4.dl y4.al y4.s.dr y4.ds y4.as++[(md,.list (es.map fun e=>V.ref e.t)),(wo,.list ((mks.map fun x=>V.ref x.wa).set mi (V.ref y4.wa)))]) (a:=y4.wl) (o':=.list (y4.wvs++[.ref tw])) (X:=G es) (by rw [List.append_assoc]; exact A5)
    rw [List.append_assoc] at A6
    rw [ewl4] at A6
    walk_at "s"
    refine ⟨rfl,rfl,W₅,{ y4 with wvs:=y4.wvs++[.ref tw],wls:=y4.wls++[(w.l,w.n)] },L5,em4,ewl4,⟨hy4.is.mono L5,hy4.inv,hy4.wok,hy4.wir,hy4.wlen,(hy4.mono L5).wds,?_,fun p hp=>?_,by simp only [List.length_append,List.length_cons,List.length_nil]; (revert hmi hwll4 hwvl; lia)⟩,?_⟩
    ·simp only [List.map_append]
     exact ((hy4.mono L5).wlr).snoc (rep_end.mpr ⟨tw,rfl,htW⟩)
    ·rcases List.mem_append.mp hp with hp | hp
     ·exact hy4.wli p hp
     ·rw [List.mem_singleton] at hp; subst hp
      exact hsaid.inr (by (revert h3; lia)) w (.head _)
    ·show At _ _ _
     simp only
     rw [ewl4]
     exact A6
   ·refine if_f h3 ?_
    walk_at "s"
    exact ⟨rfl,rfl,W₄,y4,Sto.le_refl _,em4,ewl4,hy4,A4⟩
  rintro f M' σ₅ ⟨rfl,rfl,W₅,y5,L45,em5,ewl5,hy5,A5⟩
  clear A4 hy4 em4 ewl4 hwll4
  have L15:=L14.trans' L45
  have hy5l:=hy5.wlen
  obtain ⟨zvs,hzv,hzr⟩:=hy5.wds
  have hin5:=stand_in hy5.wok hy5.wir
  have hwn5:∀ w∈y5.ws,WdN w:=fun w hw=>(hy5.wok w hw).n
  -- levels
  walk_at "go"
  refine E_sub ?_
  walk_at "go"
  refine ⟨_,ewo A5,?_⟩
  walk_at "go"
  refine ok_law_levels (n:=n+6) r.cx A5 (cnt:=cnt) hzv hzr (fun w hw=>(hy5.wok w hw).wd) (fun p hp=>(hin5 p hp).1) (by (revert hj7 hmi hy5l; lia)) (by (revert c2 c4 hbl; lia)) fun σ₆ W₆ lv L56 A6 hlv=>?_
  refine (let M1:Loc:=_; st_ (M':=M1) rfl ?_)
  have A6':Fm σ₆ W₆ md (es.map fun e=>V.ref e.t) y5 es:=A6
  clear A6 A5
  have hfin:=fin_law hy5.inv (lv_base hB.lv) hwn5 (fun p hp=>(hin5 p hp).1) (by (revert hj7 hmi hy5l; lia))
  have hoa:=oa_law hy5.inv hy5.wok
  have hy6:=hy5.mono L56
  have L16:=L15.trans' L56
  have hB6:=hB.mono (hW.trans' L16)
  generalize hstE:stand y5.ws=st at hlv hfin
  -- times
  walk_at "go"
  refine div_ (by lia) ?_
  walk_at "go"
  refine mod_ (by lia) ?_
  refine bo_ ?_
  obtain ⟨tm,htm⟩:∃ tm:Nat,2-x / 108%3=tm:=⟨(2-x / 108%3).toNat,by lia⟩
  rw [htm]
  have htm2:tm≤2:=by (revert htm; lia)
  refine (let M1:Loc:=_; st_ (M':=M1) rfl ?_)
  walk_at "s"
  refine X_forr ?_
  walk_at "go"
  refine ⟨tm,rfl,by (revert htm; lia),by (revert htm; lia),?_⟩
  suffices inner:∀ (kk i:Nat) (W₇ σ₇:Sto) (es7:List En) (o25:Option V),tm-i=kk→i≤tm→W₆.le W₇→(∀ e∈es7,EnOk W₇ cnt e)→es7.length≤3*j+i→(good st→i≤es7.length)→Fm σ₇ W₇ md (es7.map fun e=>V.ref e.t) y5 es7 →
    ForG Φ _ _ (fun _=>True) _ _ (rng i tm) (some (.ref sa)::some (.ref md)::some (.int j)::some (.int x)::some (.int mi)::some (.int what)::some (.ref sd)::some lv::some (.int tm)::o25::none::TL) σ₇ from
   inner _ 0 W₆ σ₆ es o25 rfl (by (revert htm; lia)) (Sto.le_refl _) (fun e he=>(hes e he).mono L16) (by (revert hel; lia)) (fun _=>by lia) A6'
  clear A6'
  intro kk
  induction kk with
  | succ kk ih2 =>
   intro i W₇ σ₇ es7 o25 hkk hi L67 hes7 hel7 hg7 A7
   rw [rng_cons (a:=(i:Int)) (b:=(tm:Int)) (by (revert hkk hi; lia))]
   refine ⟨trivial,?_⟩
   refine (let M1:Loc:=_; let F1:KF:=_; SG_n (M':=M1) (K:=kSb _ _ F1 _) r.toRun rfl ?_)
   have hy7:=hy6.mono L67
   have hB7:=hB6.mono L67
   have hlv7:LvRes W₇ cnt st lv:=by
    rcases hlv with h | ⟨ls,h1,h2⟩
    ·exact .inl h
    ·exact .inr ⟨ls,h1,h2.mono L67⟩
   walk_at "s"
   walk_at "s"
   walk_at "s"
   walk_at "s"
   walk_at "s"
   walk_at "s"
   refine E_sub ?_
   walk_at "go"
   refine ⟨_,emk (L16.trans' L67) (At.le A7),?_⟩
   walk_at "go"
   rw [← em5]
   refine ok_law_finished (n:=n+1) r.cx (At.perm A7 List.perm_middle) hy7.is (by (revert c2 c4 hbl; lia)) zb (fun q hq=>by have:=hy7.is.za q hq; (revert hj7 hmi this; lia)) (.tail _ (.tail _ (List.mem_append_right _ (List.mem_append_right _ (List.mem_append_left _ (.head _)))))) (.tail _ (.tail _ (List.mem_append_right _ (List.mem_append_right _ (List.mem_append_left _ (.tail _ (.head _)))))))
    (fun p hp=>.tail _ (.tail _ (List.mem_append_right _ (List.mem_append_right _ (List.mem_append_left _ (List.mem_append_left _ (.tail _ (.tail _ (List.mem_map.mpr ⟨p,hp,rfl⟩))))))))) hB7.vl hbl hB7.ord hB.ok.ok hoa hfin hlv7 (by rw [List.length_map]; (revert hj7 hmi htm hi hel7; lia))
    (fun hng σ₈ W₈ L8 A8=>?_) (fun hg fss hlo hok hfl64 hgr σ₈ W₈ te ve fle sce pse L8 hsce hVe hte A8=>?_)
   ·refine ⟨_,rfl,?_⟩
    refine if_F ?_
    walk_at "s"
    walk_at "s"
    have:=ih2 (i+1) W₈ σ₈ es7 (some (.int i)) (by (revert hkk hi; lia)) (by (revert hkk hi; lia)) (L67.trans' L8) (fun e he=>(hes7 e he).mono L8) (by (revert hmi hel7; lia)) (fun hg=>absurd hg hng) (At.perm A8 List.perm_middle.symm)
    rw [Int.natCast_succ] at this
    exact this
   ·refine ⟨_,rfl,?_⟩
    refine if_F ?_
    walk_at "s"
    walk_at "s"
    have hnew:EnOk W₈ cnt ⟨te,ve,fle,sce,pse,fss,lv⟩:=⟨hte,hVe,hgr.mono L8,ls_ok hok hfl64 hlo.2.1 c2 c4,hlo.2.1⟩
    have:=ih2 (i+1) W₈ σ₈ (es7++[⟨te,ve,fle,sce,pse,fss,lv⟩]) (some (.int i)) (by (revert hkk hi; lia)) (by (revert hkk hi; lia)) (L67.trans' L8) (fun e he=>by
     rcases List.mem_append.mp he with he | he
     ·exact (hes7 e he).mono L8
     ·rw [List.mem_singleton] at he; subst he; exact hnew) (by simp; (revert hmi hel7; lia)) (fun hg=>by have:=hg7 hg; simp; (revert this; lia)) (by
     show At _ _ _
     refine At.perm A8 (perm_ct fun p=>?_)
     simp only [G,enB,List.flatMap_append,List.flatMap_cons,List.flatMap_nil,List.map_append,List.map_cons,List.map_nil,List.append_nil,List.countP_append,List.countP_cons]
     lia)
    rw [Int.natCast_succ] at this
    exact this
  | zero =>
  intro i W₇ σ₇ es7 o25 hkk hi L67 hes7 hel7 hg7 A7
  have hitm:i=tm:=by (revert hkk hi; lia)
  subst hitm
  rw [rng_nil (a:=(i:Int)) (b:=(i:Int)) (by lia)]
  refine ⟨trivial,?_⟩
  have L17:=L16.trans' L67
  -- the next turn
  have next:∀ {W₈ σ₈:Sto} {md':Addr} {es8:List En},W₇.le W₈→(∀ e∈es8,EnOk W₈ cnt e)→es8.length≤3*j+2→Fm σ₈ W₈ md' (es8.map fun e=>V.ref e.t) y5 es8 →
    ForG Φ _ _ (fun _=>True) _ _ (rng ((j:Int)+1) T) (some (.ref sa)::some (.ref md')::some (.int j)::some (.int x)::some (.int mi)::some (.int what)::some (.ref sd)::some lv::some (.int i)::o25::none::TL) σ₈:=fun {W₈ σ₈ md' es8} L8 hes8 hel8 A8=>by
   have em:(mks.set mi y5).map (fun x=>V.ref x.m)=mks.map fun x=>V.ref x.m:=by
    rw [esp2]; conv=>rhs; rw [esp1]
    simp only [List.map_append,List.map_cons,em5]
   have ewl:(mks.set mi y5).map (fun x=>V.ref x.wl)=mks.map fun x=>V.ref x.wl:=by
    rw [esp2]; conv=>rhs; rw [esp1]
    simp only [List.map_append,List.map_cons,ewl5]
   have:=ih (j+1) W₈ σ₈ md' (mks.set mi y5) es8 (some (.int j)) (some (.int x)) (some (.int mi)) (some (.int what)) (some (.ref sd)) (some lv) (some (.int i)) o25 (by (revert hk hj hmi; lia)) (by (revert hk hj hmi; lia)) (hW.trans' (L17.trans' L8)) (by simpa using hm2) (by rw [em]; exact (L17.trans' L8) _ _ hmk) (by rw [ewl]; exact (L17.trans' L8) _ _ hwil) (fun x hx=>by
    rcases mem_set hx with rfl | hx
    ·exact hy6.mono (L67.trans' L8)
    ·exact ((hms x hx).mono (L17.trans' L8)).up (by lia)) hes8 (by (revert hmi hel8; lia)) (by
    refine At.perm A8 (perm_ct fun p=>?_)
    have ef:(mks.set mi y5).flatMap (msB bv)=(mks.take mi).flatMap (msB bv)++(msB bv y5++(mks.drop (mi+1)).flatMap (msB bv)):=by
     rw [esp2,List.flatMap_append,List.flatMap_cons]
    have ew:(mks.set mi y5).map (fun x=>V.ref x.wa)=(mks.map fun x=>V.ref x.wa).set mi (V.ref y5.wa):=by rw [List.map_set]
    rw [ef,ew]
    simp only [G,msB,List.countP_append,List.countP_cons]
    lia)
   rw [Int.natCast_succ] at this
   exact this
  walk_at "go"
  refine ct_ ?_
  by_cases ht2:i=2
  case neg =>
   refine ite_neg (by simp; (revert htm ht2; lia)) ?_
   refine if_F ?_
   walk_at "go"
   walk_at "go"
   exact next (Sto.le_refl _) hes7 (by (revert hmi hel7 htm; lia)) A7
  refine ite_pos (by simp [ht2]) ?_
  walk_at "go"
  refine cop_isnot_none ?_
  by_cases hg:good st
  case neg =>
   have hlvn:lv=.none:=by
    rcases hlv with ⟨h,_⟩ | ⟨ls,h,_⟩
    ·exact h
    ·exact absurd h.1 hg
   subst hlvn
   refine ⟨false,rfl,?_⟩
   refine if_F ?_
   refine if_F ?_
   walk_at "go"
   walk_at "go"
   exact next (Sto.le_refl _) hes7 (by (revert hmi hel7 htm ht2; lia)) A7
  obtain ⟨la,hla⟩:∃ la,lv=.ref la:=by
   rcases hlv with ⟨_,h⟩ | ⟨ls,_,h⟩
   ·exact absurd hg h
   ·skip
    obtain ⟨la,_,h,_⟩:=h; exact ⟨la,h⟩
  subst hla
  refine ⟨true,rfl,?_⟩
  try refine ite_pos (by rfl) ?_
  walk_at "s"
  try refine ite_pos (by rfl) ?_
  obtain ⟨e0,p1,p2,rfl⟩:=concat2 (l:=es7) (by have:=hg7 hg; (revert htm ht2 this; lia))
  have hp1:=hes7 p1 (by simp)
  have hlen7:((e0++[p1,p2]).map fun e=>V.ref e.t).length=e0.length+2:=by simp
  have hel0:e0.length+2≤3*j+i:=by simpa using hel7
  have hmdl:σ₇ md=some (.list ((e0++[p1,p2]).map fun e=>V.ref e.t)):=At.get A7 (List.mem_append_right _ (.head _))
  have hlen2:((e0++[p1,p2]).map fun e=>V.ref e.t).length < 1000000000:=by rw [hlen7]; (revert hj7 hmi ht2 hel0; lia)
  -- the one before the last is spoilt
  walk_at "s"
  refine X_ex ?_
  walk_at "s"
  walk_at "s"
  refine E_sub ?_
  refine E_sub ?_
  walk_at "go"
  refine b_len_list hmdl hlen2 ?_
  rw [hlen7]
  walk_at "go"
  refine bo_ ?_
  refine ⟨.ref p1.t,.list hmdl (by (revert hlen7 hlen2; lia)) (by (revert hj7 hmi ht2 hlen7 hel0 hlen2; lia)) (by
   rw [show (((e0.length+2:Nat):Int)-2).toNat=e0.length by lia,List.map_append,List.getElem?_append_right (by simp)]
   simp),?_⟩
  walk_at "go"
  refine ⟨.ref p1.v,.tuple (At.fz A7 hp1.tw) (by lia) (by lia) rfl,?_⟩
  walk_at "go"
  have A8:At σ₇ W₇ ((p1.v,.inst 466 (verF cnt io p1.fl p1.sc (-1)))::(p1.fl,.list (p1.ps.map fun p=>V.ref p.1))::((p1.ps.map fun p=>(p.1,O.list p.2))++(mkH y5.m bv y5.dl y5.al y5.s.dr y5.ds y5.as++((md,.list ((e0++[p1,p2]).map fun e=>V.ref e.t))::(wo,.list ((mks.map fun x=>V.ref x.wa).set mi (V.ref y5.wa)))::(y5.wl,.list y5.wvs)::G (e0++[p2]))))):=by
   refine At.perm A7 (perm_ct fun p=>?_)
   simp only [G,enB,verH,rB,lB,List.flatMap_append,List.flatMap_cons,List.flatMap_nil,List.append_nil,List.countP_append,List.countP_cons]
   lia
  refine ok_law_spoil (n:=n+7) r.cx A8 (hp1.vl.len hp1.ok.len) fun σ₉ W₉ L9 A9=>?_
  clear A8 A7 hmdl
  have hmdl9:σ₉ md=some (.list ((e0++[p1,p2]).map fun e=>V.ref e.t)):=A9.get (List.mem_append_right _ (.head _))
  -- made anew
  walk_at "s"
  walk_at "s"
  walk_at "s"
  refine SE_slice_upto (by intros; rfl) ?_
  walk_at "go"
  refine b_len_list hmdl9 hlen2 ?_
  rw [hlen7]
  walk_at "go"
  refine bo_ ?_
  refine ⟨md,_,_,rfl,rfl,by (revert hlen7 hlen2; lia),hmdl9,by rw [hlen7]; (revert hj7 hmi ht2 hlen7 hel0 hlen2; lia),fun c1 hc1=>?_⟩
  rw [show (((e0.length+2:Nat):Int)-2).toNat=e0.length by lia]
  have et1:((e0++[p1,p2]).map fun e=>V.ref e.t).take e0.length=e0.map fun e=>V.ref e.t:=by
   rw [← List.map_take,List.take_left]
  rw [et1]
  have A10:=A9.newF (o:=.list (e0.map fun e=>V.ref e.t)) hc1
  have L10:=A9.newle (o:=.list (e0.map fun e=>V.ref e.t)) hc1
  have hc1W:(W₉.set c1 (.list (e0.map fun e=>V.ref e.t))) c1=some (.list (e0.map fun e=>V.ref e.t)):=Sto.set_same
  generalize σ₉.set c1 (.list (e0.map fun e=>V.ref e.t))=σ₁₀ at A10
  generalize W₉.set c1 (.list (e0.map fun e=>V.ref e.t))=W₁₀ at A10 L10 hc1W
  have hmdl10:σ₁₀ md=some (.list ((e0++[p1,p2]).map fun e=>V.ref e.t)):=A10.get (List.mem_append_right _ (.head _))
  refine SE_slice_from (by intros; rfl) ?_
  walk_at "go"
  refine b_len_list hmdl10 hlen2 ?_
  rw [hlen7]
  walk_at "go"
  refine bo_ ?_
  refine ⟨md,_,_,rfl,rfl,by (revert hlen7 hlen2; lia),hmdl10,by rw [hlen7]; (revert hj7 hmi ht2 hlen7 hel0 hlen2; lia),fun c2 hc2=>?_⟩
  rw [show (((e0.length+2:Nat):Int)-1).toNat=e0.length+1 by lia]
  have et2:((e0++[p1,p2]).map fun e=>V.ref e.t).drop (e0.length+1)=[V.ref p2.t]:=by
   rw [← List.map_drop,← List.drop_drop,List.drop_left]; rfl
  rw [et2]
  have A11:=A10.newF (o:=.list [V.ref p2.t]) hc2
  have L11:=A10.newle (o:=.list [V.ref p2.t]) hc2
  have hc2W:(W₁₀.set c2 (.list [V.ref p2.t])) c2=some (.list [V.ref p2.t]):=Sto.set_same
  generalize σ₁₀.set c2 (.list [V.ref p2.t])=σ₁₁ at A11
  generalize W₁₀.set c2 (.list [V.ref p2.t])=W₁₁ at A11 L11 hc2W
  refine bop_lists ⟨_,_,A11.fz (L11 _ _ hc1W),A11.fz hc2W,by simp; (revert hj7 hmi ht2 hlen7 hel0 hlen2; lia),fun c3 hc3=>?_⟩
  have A12:=A11.new (o:=.list ((e0.map fun e=>V.ref e.t)++[V.ref p2.t])) hc3
  refine (let M1:Loc:=_; st_ (M':=M1) rfl ?_)
  walk_at "go"
  refine next (es8:=e0++[p2]) (L9.trans' (L10.trans' L11)) (fun e he=>?_) (by simp; (revert hmi ht2 hel0; lia)) ?_
  ·refine (hes7 e ?_).mono (L9.trans' (L10.trans' L11))
   rcases List.mem_append.mp he with he | he
   ·exact List.mem_append_left _ he
   ·rw [List.mem_singleton] at he; subst he; simp
  ·have A13:At (σ₁₁.set c3 (.list ((e0.map fun e=>V.ref e.t)++[V.ref p2.t]))) W₁₁ ((md,.list ((e0++[p1,p2]).map fun e=>V.ref e.t))::(mkH y5.m bv y5.dl y5.al y5.s.dr y5.ds y5.as++((c3,.list ((e0++[p2]).map fun e=>V.ref e.t))::(wo,.list ((mks.map fun x=>V.ref x.wa).set mi (V.ref y5.wa)))::(y5.wl,.list y5.wvs)::G (e0++[p2])))):=by
    refine A12.perm (perm_ct fun p=>?_)
    have e3:((e0++[p2]).map fun e=>V.ref e.t)=(e0.map fun e=>V.ref e.t)++[V.ref p2.t]:=by simp
    rw [e3]
    simp only [List.countP_append,List.countP_cons]
    lia
   exact A13.sub (List.sublist_cons_self _ _)
end
section
variable {c:Ctx} {n:Nat} {σ W:Sto} {Q:KV} {R:Sto→Prop} {H:List (Addr×O)}
theorem law_29 {Φ:Act} (r:RunF Φ (n+11) lawVs (scopeOf 633)) {sa nu o fi hv mk bv bfl io bsc md mkl wo wil:Addr} {a b lt bb lf:Int} {cnt:Nat} {fw:List Wd} {oi ol om o18 o19 o20 o21 o22 o23 o24 o25:Option V} {gv sv:V} {bfss:List (List Mt)} {bps:List (Addr×List V)} {b0:Int×Int×Int} {mks:List MS} {es:List En} (c2:2≤cnt) (c4:cnt≤4) (hop:OpOk lt bb lf)
  (hB:BaseS W cnt fw bfss bps io bsc gv sv b0) (hm2:mks.length=2) (hmk:W mkl=some (.list (mks.map fun x=>V.ref x.m))) (hms:∀ x∈mks,MSOk W cnt bfss 7 x) (hes:∀ e∈es,EnOk W cnt e) (hel:es.length≤30)
  (A:At σ W ((md,.list (es.map fun e=>V.ref e.t))::(wo,.list (mks.map fun x=>V.ref x.wa))::(mks.flatMap (msB bv)++(bgH bv bfl cnt io bsc b0.2.2 bps o hv lt bb lf++es.flatMap (enB cnt io)))))
  (q:∀ σ',Q (.bool true) σ') :
  SS Φ (List.drop 29 (bodyOf 633)) [some (.ref sa),some (.ref md),o18,o19,o20,o21,o22,o23,o24,o25,none,oi,ol,om,some (.ref nu),some (.int a),some (.int b),some (.int cnt),some (.ref o),some (.ref fi),some (.ref mk),some (.ref bv),some gv,some sv,some (.ref mkl),some (.ref wo),some (.ref wil)] σ (LF Q) (kR R):=by
 have zb:∀ fs∈bfss,fs.length≤100:=fun fs hfs=>by have:=hB.ok.len fs hfs; (revert this; lia)
 have zls:∀ {ls:List (List Mt)},LsOk ls→∀ fs∈ls,fs.length≤1000:=fun h fs hfs=>by have:=h.len fs hfs; (revert this; lia)
 have hbl:bfss.length=cnt:=hB.lv.2.1
 walk_at "s"
 refine X_forr ?_
 walk_at "go"
 refine ⟨2,rfl,by lia,by lia,?_⟩
 suffices main:∀ (k j:Nat) (W₁ σ₁:Sto) (es:List En) (o20:Option V),2-j=k→j≤2→W.le W₁→(∀ e∈es,EnOk W₁ cnt e)→es.length≤30+j →
   At σ₁ W₁ ((md,.list (es.map fun e=>V.ref e.t))::(wo,.list (mks.map fun x=>V.ref x.wa))::(mks.flatMap (msB bv)++(bgH bv bfl cnt io bsc b0.2.2 bps o hv lt bb lf++es.flatMap (enB cnt io)))) →
   ForG Φ _ _ (fun _=>True) _ _ (rng j 2) [some (.ref sa),some (.ref md),o18,o19,o20,o21,o22,o23,o24,o25,none,oi,ol,om,some (.ref nu),some (.int a),some (.int b),some (.int cnt),some (.ref o),some (.ref fi),some (.ref mk),some (.ref bv),some gv,some sv,some (.ref mkl),some (.ref wo),some (.ref wil)] σ₁ from
  main _ 0 W σ es o20 rfl (by lia) (Sto.le_refl _) hes (by (revert hel; lia)) A
 clear A hes hel es
 intro k
 induction k with
 | succ k ih =>
  intro j W₁ σ₁ es o20 hk hj hW hes hel A
  rw [rng_cons (by (revert hk hj; lia))]
  refine ⟨trivial,?_⟩
  refine (let M1:Loc:=_; let F1:KF:=_; SG_n (M':=M1) (K:=kSb _ _ F1 _) r.toRun rfl ?_)
  obtain ⟨y,ey⟩:∃ y,mks[j]?=some y:=⟨_,List.getElem?_eq_getElem (by (revert hm2 hk hj; lia))⟩
  have hy:=(hms y (List.mem_of_getElem? ey)).mono hW
  obtain ⟨esp1,esp2⟩:=split_at ey
  have ef:mks.flatMap (msB bv)=(mks.take j).flatMap (msB bv)++(msB bv y++(mks.drop (j+1)).flatMap (msB bv)):=by
   conv=>lhs; rw [esp1]
   rw [List.flatMap_append,List.flatMap_cons]
  have hyl:=hy.wlen
  obtain ⟨zvs,hzv,hzr⟩:=hy.wds
  have hin:=stand_in hy.wok hy.wir
  have hwn:∀ w∈y.ws,WdN w:=fun w hw=>(hy.wok w hw).n
  have hfin:=fin_law hy.inv (lv_base hB.lv) hwn (fun p hp=>(hin p hp).1) (by (revert hyl; lia))
  have hoa:=oa_law hy.inv hy.wok
  walk_at "s"
  walk_at "s"
  walk_at "s"
  walk_at "s"
  walk_at "s"
  walk_at "s"
  refine E_sub ?_
  walk_at "go"
  refine ⟨.ref y.m,.list (A.fz (hW _ _ hmk)) (by (revert hj; lia)) (by (revert hj; lia)) (by simp [ey]),?_⟩
  walk_at "s"
  walk_at "s"
  walk_at "s"
  refine E_sub ?_
  walk_at "go"
  refine ⟨.ref y.wa,.list (A.get (.tail _ (.head _))) (by (revert hj; lia)) (by (revert hj; lia)) (by simp [ey]),?_⟩
  walk_at "go"
  refine ok_law_levels (n:=n+6) r.cx A (cnt:=cnt) hzv hzr (fun w hw=>(hy.wok w hw).wd) (fun p hp=>(hin p hp).1) (by (revert hyl; lia)) (by (revert c2 c4 hbl; lia)) fun σ₂ W₂ lv L2 A2 hlv=>?_
  walk_at "go"
  have hy2:=hy.mono L2
  have hB2:=hB.mono (hW.trans' L2)
  have A3:At σ₂ W₂ ((md,.list (es.map fun e=>V.ref e.t))::(mkH y.m bv y.dl y.al y.s.dr y.ds y.as++((y.wl,.list y.wvs)::(wo,.list (mks.map fun x=>V.ref x.wa))::(bgH bv bfl cnt io bsc b0.2.2 bps o hv lt bb lf++((mks.take j).flatMap (msB bv)++((mks.drop (j+1)).flatMap (msB bv)++es.flatMap (enB cnt io))))))):=by
   refine A2.perm (perm_ct fun p=>?_)
   rw [ef]
   simp only [msB,List.countP_append,List.countP_cons]
   lia
  clear A2 A
  refine ok_law_finished (n:=n+1) r.cx A3 hy2.is (by (revert c2 c4 hbl; lia)) zb (fun q hq=>by have:=hy2.is.za q hq; (revert this; lia)) (.tail _ (.tail _ (List.mem_append_left _ (.head _)))) (.tail _ (.tail _ (List.mem_append_left _ (.tail _ (.head _)))))
   (fun p hp=>.tail _ (.tail _ (List.mem_append_left _ (List.mem_append_left _ (.tail _ (.tail _ (List.mem_map.mpr ⟨p,hp,rfl⟩))))))) hB2.vl hbl hB2.ord hB2.ok.ok hoa hfin hlv (by rw [List.length_map]; (revert hj hel; lia))
   (fun hng σ₄ W₄ L4 A4=>?_) (fun hg fss hlo hok hfl64 hgr σ₄ W₄ te ve fle sce pse L4 hsce hVe hte A4=>?_)
  ·refine ⟨_,rfl,?_⟩
   refine if_F ?_
   walk_at "s"
   walk_at "s"
   have:=ih (j+1) W₄ σ₄ es (some (.int j)) (by (revert hk hj; lia)) (by (revert hk hj; lia)) (hW.trans' (L2.trans' L4)) (fun e he=>(hes e he).mono (L2.trans' L4)) (by (revert hel; lia)) (by
    refine A4.perm (perm_ct fun p=>?_)
    rw [ef]
    simp only [msB,List.countP_append,List.countP_cons]
    lia)
   rw [Int.natCast_succ] at this
   exact this
  ·refine ⟨_,rfl,?_⟩
   refine if_F ?_
   walk_at "s"
   walk_at "s"
   have hnew:EnOk W₄ cnt ⟨te,ve,fle,sce,pse,fss,lv⟩:=⟨hte,hVe,hgr.mono L4,ls_ok hok hfl64 hlo.2.1 c2 c4,hlo.2.1⟩
   have:=ih (j+1) W₄ σ₄ (es++[⟨te,ve,fle,sce,pse,fss,lv⟩]) (some (.int j)) (by (revert hk hj; lia)) (by (revert hk hj; lia)) (hW.trans' (L2.trans' L4)) (fun e he=>by
    rcases List.mem_append.mp he with he | he
    ·exact (hes e he).mono (L2.trans' L4)
    ·rw [List.mem_singleton] at he; subst he; exact hnew) (by simp; (revert hel; lia)) (by
    refine A4.perm (perm_ct fun p=>?_)
    rw [ef]
    simp only [msB,enB,List.flatMap_append,List.flatMap_cons,List.flatMap_nil,List.map_append,List.map_cons,List.map_nil,List.append_nil,List.countP_append,List.countP_cons]
    lia)
   rw [Int.natCast_succ] at this
   exact this
 | zero =>
 intro j W₁ σ₁ es o20 hk hj hW hes hel A
 have hj2:j=2:=by (revert hk hj; lia)
 subst hj2
 rw [rng_nil (by lia)]
 refine ⟨trivial,?_⟩
 have A1:At σ₁ W₁ ((md,.list (es.map fun e=>V.ref e.t))::(bgH bv bfl cnt io bsc b0.2.2 bps o hv lt bb lf++es.flatMap (enB cnt io))):=A.sub (List.Sublist.cons_cons _ ((List.sublist_append_right _ _).trans (List.sublist_cons_self _ _)))
 clear A
 -- each version that was made
 walk_at "s"
 refine X_for ?_
 walk_at "go"
 refine ⟨md,es.map fun e=>V.ref e.t,rfl,?_⟩
 suffices main2:∀ (todo:List En) (W₂ σ₂:Sto) (o23 o26:Option V),W₁.le W₂→(∀ e∈todo,EnOk W₂ cnt e)→At σ₂ W₂ ((md,.list (es.map fun e=>V.ref e.t))::(bgH bv bfl cnt io bsc b0.2.2 bps o hv lt bb lf++todo.flatMap (enB cnt io))) →
   ForG Φ _ _ (fun σ=>σ md=some (.list (es.map fun e=>V.ref e.t))) _ _ (todo.map fun e=>V.ref e.t) [some (.ref sa),some (.ref md),o18,o19,o20,o21,o22,o23,o24,o25,o26,oi,ol,om,some (.ref nu),some (.int a),some (.int b),some (.int cnt),some (.ref o),some (.ref fi),some (.ref mk),some (.ref bv),some gv,some sv,some (.ref mkl),some (.ref wo),some (.ref wil)] σ₂ from
  main2 es W₁ σ₁ o23 none (Sto.le_refl _) hes A1
 clear A1 o23
 intro todo
 induction todo with
 | cons e todo ih =>
  intro W₂ σ₂ o23 o26 hW2 hes2 A2
  have he:=hes2 e (.head _)
  refine ⟨A2.get (.head _),?_⟩
  refine (let M1:Loc:=_; let F1:KF:=_; SG_t (M':=M1) (K:=kSb _ _ F1 _) r.toRun (A2.fz he.tw) rfl ?_)
  have A3:At σ₂ W₂ (verH e.v e.fl cnt io e.sc (-1) e.ps++((md,.list (es.map fun e=>V.ref e.t))::(bgH bv bfl cnt io bsc b0.2.2 bps o hv lt bb lf++todo.flatMap (enB cnt io)))):=by
   refine A2.perm (perm_ct fun p=>?_)
   simp only [enB,List.flatMap_cons,List.countP_append,List.countP_cons]
   lia
  clear A2
  walk_at "go"
  have hvl:=he.vl.1
  have hel2:=he.len
  have hok:=he.ok
  refine ok_law_shows (n:=n+8) r.cx A3 (las:=e.ps.map (·.1)) (fss:=e.ls) (ls:=e.ls) (A3.get (.head _)) (by rw [← rB_lB]; exact A3.get (.tail _ (.head _))) (he.vl.levs A3.le (fun p hp=>A3.get (List.mem_append_left _ (.tail _ (.tail _ (List.mem_map.mpr ⟨p,hp,rfl⟩))))) (zls hok)) he.gr hok.ok (by rw [List.length_map]; (revert c2 c4 hbl hvl hel2; lia)) (by (revert c2 c4 hbl hel2; lia)) (zls hok) fun σ₄ b1 hb1 A4=>?_
  have:b1=true:=hb1.mpr rfl
  subst this
  refine ⟨_,rfl,?_⟩
  refine if_F ?_
  walk_at "go"
  refine ok_law_scored (n:=n+5) r.cx A4 (fss:=e.ls) (hv:=hv) (lt:=lt) (bb:=bb) (lf:=lf) (.tail _ (List.mem_append_left _ (List.mem_append_right _ (.head _)))) he.vl he.gr hel2 hok hop fun σ₅ W₅ t L5 ht A5=>?_
  refine ⟨_,rfl,?_⟩
  refine if_F ?_
  walk_at "s"
  refine if_F ?_
  walk_at "s"
  walk_at "s"
  refine X_ex ?_
  walk_at "go"
  refine ok_law_spoil (n:=n+7) r.cx (ps:=e.ps) (by unfold verH rB lB at A5; exact A5) (he.vl.len hok.len) fun σ₆ W₆ L6 A6=>?_
  walk_at "s"
  exact ih W₆ σ₆ _ _ (hW2.trans' (L5.trans' L6)) (fun e' he'=>(hes2 e' (.tail _ he')).mono (L5.trans' L6)) A6
 | nil =>
 intro W₂ σ₂ o23 o26 hW2 _ A2
 refine ⟨A2.get (.head _),?_⟩
 have hB2:=hB.mono (hW.trans' hW2)
 have A3:At σ₂ W₂ (verH bv bfl cnt io bsc b0.2.2 bps++[(o,.inst 305 (optF hv cnt lt bb lf))]):=A2.sub (by
  unfold bgH
  simp only [List.flatMap_nil,List.append_nil]
  exact List.sublist_cons_self _ _)
 -- the base is as it was
 walk_at "s"
 walk_at "s"
 walk_at "s"
 refine SBo_and ?_
 walk_at "go"
 refine ok_law_shows (n:=n+8) r.cx A3 (las:=bps.map (·.1)) (fss:=bfss) (ls:=bfss) (A3.get (.head _)) (by rw [← rB_lB]; exact A3.get (.tail _ (.head _))) (hB2.vl.levs A3.le (fun p hp=>A3.get (List.mem_append_left _ (.tail _ (.tail _ (List.mem_map.mpr ⟨p,hp,rfl⟩))))) (zls hB.ok)) hB2.gr hB.ok.ok (by rw [List.length_map,hB.vl.1]; (revert c2 c4 hbl; lia)) (by (revert c2 c4 hbl; lia)) (zls hB.ok) fun σ₄ b1 hb1 A4=>?_
 have:b1=true:=hb1.mpr rfl
 subst this
 refine ⟨_,rfl,?_⟩
 try refine ite_pos (by rfl) ?_
 refine SBo_one ?_
 walk_at "s"
 refine SE_tuple (by simp) ?_
 walk_at "s"
 refine E_at ?_
 walk_at "go"
 refine at_ r.cx (A4.get (.head _)) rfl ?_
 walk_at "s"
 refine E_at ?_
 walk_at "go"
 refine at_ r.cx (A4.get (.head _)) rfl ?_
 walk_at "go"
 refine ⟨by simp,fun t2 ht2=>?_⟩
 have A5:=A4.newF (o:=.tuple [.ref bsc,.int b0.2.2]) ht2
 have L5:=A4.newle (o:=.tuple [.ref bsc,.int b0.2.2]) ht2
 have hsr:=scoreD_at (W:=W₂.set t2 (.tuple [.ref bsc,.int b0.2.2])) (b0:=b0) (t2:=t2) (sc:=bsc) Sto.set_same (L5 _ _ hB2.sc)
 walk_at "go"
 refine cop_eq_rep (bb:=true) r.ok 2 (by lia) (by simp [scoreD]) (hsr.mono A5.le) ((hB2.mono L5).sr.mono A5.le) (by simp) ?_
 exact q _
theorem law_body {Φ:Act} (r:RunF Φ (n+11) lawVs (scopeOf 633)) {sa:Addr} {items:List Value} {xs:List Int} (A:At σ W []) (hsa:Φ.base.IsList sa items.toArray) (hit:items.map er=xs.map V.int) (hxs:xs.length≤63) (q:∀ σ',Q (.bool true) σ') :
  SS Φ (bodyOf 633) [some (.ref sa),none,none,none,none,none,none,none,none,none,none,none,none,none,none,none,none,none,none,none,none,none,none,none,none,none,none] σ (LF Q) (kR R) :=
 law_0 r A hsa hit hxs fun σ₁ W₁ nu o fi hv ns a b lt bb lf cnt fw oi ol om hns ha c2 c4 hop hf A1 =>
  law_12 r ha c2 c4 hop hf A1 fun σ₂ W₂ mk bv bfl io bsc gv sv bfss bps b0 L2 hB A2 =>
   law_19 r c2 c4 hop ⟨by obtain ⟨fvs,h1,h2⟩:=hf.rep; exact ⟨fvs,L2 _ _ h1,h2.mono L2⟩,hf.ok,hf.len⟩ hB A2 fun σ₃ W₃ md mkl wo wil mks L3 hm2 hmk hwil hms A3 =>
    law_28 r ⟨(L2.trans' L3) _ _ hns.at_,hns.pos,hns.len,hns.nn⟩ c2 c4 (hB.mono L3) hm2 hmk hwil hms A3 fun σ₄ W₄ md' mks' es o18 o19 o20 o21 o22 o23 o24 o25 L4 hm2' hmk' hms' hes hel A4 =>
     law_29 r c2 c4 hop (hB.mono (L3.trans' L4)) hm2' hmk' hms' hes hel A4 q
end
noncomputable def topAct (w:World) (s₀:Shared) (mg mb:Str→Option Value) (base:Heap) (name:Str) (fa cd:Addr):Act where
 prog:=PySem.Challenge.rw_xm0863_01.row.toRowW.prog
 w:=w
 K:=hd.heap_39 w.params
 p:=hd.view_39
 loose:=looseW hd.view_39 []
 mean:=ExcName.means s₀.heap
 mg:=mg
 mb:=mb
 base:=base
 exc:=56
 A:=callerA.deeper (envOf name (scopeOf 633) base.objs.size fa (.ref cd))
 env:=envOf name (scopeOf 633) base.objs.size fa (.ref cd)
 L:=base.objs.size
 fenv:=envOf name (scopeOf 633) base.objs.size fa (.ref cd)
 outer:=[]
 comp:=none
 vars:=lawVs
 mf:=fun _=>none
theorem law_end {w:World} {s₀ s₁:Shared} {mg mb:Str→Option Value} (KX:(hd.heap_39 w.params).In s₁.heap) (T:Top hd.view_39 (looseW hd.view_39 []) (ExcName.means s₀.heap) mg mb s₁.heap) {la fa cd:Addr} {items:List Value} {xs:List Int}
  (hL:s₁.heap.IsList la items.toArray) (hI:IntsAre items xs) (hx:xs.length≤63) {h₁:Heap} {name:Str} {tk:Nat}
  (F:Fr s₁.heap s₁.heap.objs.size h₁ (fun x=>List.lookup x (List.reverse [(Str.ofString "script",Value.ref la)]))) :
  wpAny (model PySem.Challenge.rw_xm0863_01.row.toRowW.prog w) (callerA.deeper (envOf name (scopeOf 633) s₁.heap.objs.size fa (.ref cd))) (execs (bodyOf 633) (envOf name (scopeOf 633) s₁.heap.objs.size fa (.ref cd)))
   (fun fl s'=>fl=.ret (.bool true)∧s'.gens=s₁.gens∧s'.os=s₁.os∧∃ m,Fr s₁.heap s₁.heap.objs.size s'.heap m) (fun _ _=>False) { s₁ with heap:=h₁,toks:=tk }:=by
 let Φ:=topAct w s₀ mg mb s₁.heap name fa cd
 have cx:Cx Φ.toCtx:=⟨rfl,rfl,⟨KX,T⟩⟩
 have fo:=fn_law cx
 have ok:Φ.Ok 11:=by
  refine ⟨⟨KX,T⟩,fun _=>rfl,rfl,rfl,fo.kind,?_,?_,(fun q=>by cases q),fo.kind,rfl,rfl,rfl,fo.names,?_,?_,fo.dbg,fun _=>rfl⟩
  ·show callerA.depth+1+8*11≤800
   decide
  ·show callerA.units+3+64*11≤9000
   decide
  ·intro v hv
   have:∀ v∈lawVs,v.2=none∧(v.1,NameKind.local)∈(scopeOf 633).names:=by
    intro v hv
    have hl:=fo.locals
    have e:lawVs=(args_law++rest_law).map fun x=>((x,none):Str×Option Addr):=rfl
    rw [e] at hv
    obtain ⟨x,hx,rfl⟩:=List.mem_map.mp hv
    exact ⟨rfl,hl x hx⟩
   obtain ⟨h1,h2⟩:=this v hv
   rw [h1]
   exact h2
  ·have e:Φ.vars.map (·.1)=args_law++rest_law:=rfl
   rw [e]; exact fo.nodup
 have r:RunF Φ 11 lawVs (scopeOf 633):=by
  refine ⟨⟨ok,rfl,rfl,cx⟩,rfl,?_,?_,fun _=>⟨name,scopeOf 633,s₁.heap.objs.size,fa,.ref cd,rfl,fo.kind,rfl⟩⟩
  ·show interactive (envOf name (scopeOf 633) s₁.heap.objs.size fa (.ref cd))=false
   exact (blk (env:=envOf name (scopeOf 633) s₁.heap.objs.size fa (.ref cd)) fo.kind).1
  ·show (envOf name (scopeOf 633) s₁.heap.objs.size fa (.ref cd)).blockKind=.function
   exact (blk (env:=envOf name (scopeOf 633) s₁.heap.objs.size fa (.ref cd)) fo.kind).2
 have hLn:s₁.heap.get? s₁.heap.objs.size=none:=none_size (Nat.le_refl _)
 have hm:∀ x,(fun x=>List.lookup x (List.reverse [(Str.ofString "script",Value.ref la)])) x=List.lookup x [(Str.ofString "script",Value.ref la)]:=fun x=>rfl
 have y:St Φ [] [some (.ref la),none,none,none,none,none,none,none,none,none,none,none,none,none,none,none,none,none,none,none,none,none,none,none,none,none,none] (fun _=>none) h₁:=by
  refine ⟨⟨_,F,?_⟩,fun p hp=>nm hp,⟨fun a=>a,⟨fun a o e=>nn e,fun a o a' o' b e=>nn e,fun a C fs e=>nn e⟩,fun a o e=>nn e⟩,?_,?_,fun env he=>nm he⟩
  ·show NRel _ h₁ lawVs _
   refine NRel_args (xs:=[Str.ofString "script"]) (vals:=[Value.ref la]) (rest:=rest_law) rfl (fun p hp=>?_) (fun x hx=>?_)
   ·rw [List.zip_cons_cons,List.zip_nil_left,List.mem_singleton] at hp
    subst hp; rfl
   ·have:x≠Str.ofString "script":=fun e=>by
     subst e
     exact (List.nodup_append.mp fo.nodup).2.2 _ (.head _) _ hx rfl
    show List.lookup x [(Str.ofString "script",Value.ref la)]=none
    rw [List.lookup_cons,show (x == Str.ofString "script")=false by simpa using this]; rfl
  ·show (prot Φ []).Nodup
   have:prot Φ []=[s₁.heap.objs.size]:=rfl
   rw [this]; simp
  ·intro b hb
   have:prot Φ []=[s₁.heap.objs.size]:=rfl
   rw [this,List.mem_singleton] at hb
   subst hb; exact hLn
 have run:=(law_body (n:=0) (Q:=fun v _=>v=.bool true) (R:=fun _=>False) r (At.here (fun _=>none)) hL (map_of_ints hI) hx (fun _=>rfl)).1.1 [] { s₁ with heap:=h₁,toks:=tk } y
 refine wpAny_mono run (fun fl s' z=>?_) (fun e s' z=>by obtain ⟨_,_,_,_,_,hf,_⟩:=z; exact hf)
 obtain ⟨sm,M',σ',y',hq⟩:=z
 obtain ⟨m,F',_⟩:=y'.fr
 cases fl with
 | ret v =>
  have:v=.bool true:=er_bool hq
  exact ⟨by rw [this],sm.gens,sm.os,m,F'⟩
 | next=>cases hq
 | cont=>exact hq.elim
 | brk=>exact hq.elim
end Mine.Internal
open PySem PySem.W PyProof.Rows
theorem PySem.Challenge.cw_xm0863_01_holds : PySem.Challenge.rw_xm0863_01.Holds := by
  refine Mine.hd (by
    w_strict (k_go0
              rename Frag.In _ _=>zK
              rename Top _ _ _ _ _ _=>zT
              rename Heap.IsList _ _ _=>zL
              rename IntsAre _ _=>zI
              rename Fr _ _ _ _=>zF
              refine wpAny_mono (Mine.Internal.law_end zK zT zL zI (by omega) zF) ?_ (fun _ _ h=>h.elim)
              rintro fl s' ⟨rfl,hg',hos,m,F'⟩
              show GoodW _ _ _ _ _ (.ok (.ret (.bool true))) _
              refine goodW_bool F' (hg'.trans (by assumption)) (raisesW_false (by wrow_none_raised)) (postW_of (by wrow_shape) (by wtm_val) (by w_fin)) hos))
