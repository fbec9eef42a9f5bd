import PyProof.Rows.All
import Wide.All
import OpenK.AllK
import Wide.FinOn
import PySem.Challenge.RW_pq1336_01
open PySem PySem.W PyProof.Rows
set_option Elab.async false
set_option compiler.extract_closed false
name_quick tw2711585505577850959 for S.findZ by S.findZ_eq
name_quick tw8620020772036689432 for S.findZ by S.findZ_eq
name_quick tw7232422423428716515 for S.findZ by S.findZ_eq
name_quick tw12835720964997663042 for S.findZ by S.findZ_eq
name_quick tw13987355940573415152 for S.findZ by S.findZ_eq
name_quick tw14091826243799074199 for S.findZ by S.findZ_eq
name_quick tw6004533443673955352 for S.findZ by S.findZ_eq
name_quick tw17517737089405305841 for S.findZ by S.findZ_eq
name_quick tw9674257727999782656 for S.findZ by S.findZ_eq
name_quick tw7009043117176579089 for S.findZ by S.findZ_eq
name_quick tw219737044198020058 for S.findZ by S.findZ_eq
name_quick tw13160144027095335755 for S.findZ by S.findZ_eq
name_quick tw9011979029575296479 for S.findZ by S.findZ_eq
name_quick tw17827458813498177553 for S.findZ by S.findZ_eq
name_quick tw7250012664060256230 for S.findZ by S.findZ_eq
name_quick tw1291980286583624508 for S.findZ by S.findZ_eq
name_quick tw2718901123391026995 for S.findZ by S.findZ_eq
name_quick tw2001226814458364393 for S.findZ by S.findZ_eq
name_quick tw1258717718454355964 for S.findZ by S.findZ_eq
name_quick tw2169543709445408213 for S.findZ by S.findZ_eq
name_quick tw16145008321745377990 for S.findZ by S.findZ_eq
name_quick tw282004115355043989 for S.findZ by S.findZ_eq
name_quick tw17244072584429378644 for S.findZ by S.findZ_eq
name_quick tw13640514254501968386 for S.findZ by S.findZ_eq
name_quick tw3856783459128436802 for S.findZ by S.findZ_eq
name_quick tw17804436615005485693 for S.findZ by S.findZ_eq
name_quick tw15079194523842364033 for S.findZ by S.findZ_eq
name_quick tw10379131730601215995 for S.findZ by S.findZ_eq
name_quick tw13896205201685373497 for S.findZ by S.findZ_eq
name_quick tw7275051467321613617 for S.findZ by S.findZ_eq
name_quick tw17846936440860909165 for S.findZ by S.findZ_eq
name_quick tw973662469405803806 for S.findZ by S.findZ_eq
name_quick tw17475289236778735526 for S.findZ by S.findZ_eq
name_quick tw10528696920762540405 for S.findZ by S.findZ_eq
name_quick tw12233582284571471492 for S.findZ by S.findZ_eq
name_quick tw17352973434858128600 for S.findZ by S.findZ_eq
name_quick tw17730448691065144110 for S.findZ by S.findZ_eq
name_quick tw6135381517318000843 for S.findZ by S.findZ_eq
name_quick tw10015664371746657536 for S.findZ by S.findZ_eq
name_quick tw3619232141914619222 for S.findZ by S.findZ_eq
name_quick tw1829445100760108279 for S.findZ by S.findZ_eq
name_quick tw6952355047532471503 for S.findZ by S.findZ_eq
name_quick tw1184552218554016812 for S.findZ by S.findZ_eq
name_quick tw2759451637364818457 for S.findZ by S.findZ_eq
name_quick tw9376109419431680627 for S.findZ by S.findZ_eq
name_quick tw189603312586018693 for S.findZ by S.findZ_eq
name_quick tw2736616831223182526 for S.findZ by S.findZ_eq
name_quick tw1355338860687761863 for S.findZ by S.findZ_eq
name_quick tw757081541053455785 for S.findZ by S.findZ_eq
name_quick tw682011567655089306 for S.findZ by S.findZ_eq
name_quick tw4011157648589011858 for S.findZ by S.findZ_eq
name_quick tw13180171748994924942 for S.findZ by S.findZ_eq
name_quick tw7344376507651311505 for S.findZ by S.findZ_eq
name_quick tw12268644228514654432 for S.findZ by S.findZ_eq
name_quick tw13526986893379352335 for S.findZ by S.findZ_eq
name_quick tw460243522976405022 for S.findZ by S.findZ_eq
name_quick tw4407734736301137906 for S.findZ by S.findZ_eq
name_quick tw4434333111790514575 for S.findZ by S.findZ_eq
name_quick tw5978237884098788730 for S.findZ by S.findZ_eq
name_quick tw704327219915372674 for S.findZ by S.findZ_eq
name_quick tw6144853644547557980 for S.findZ by S.findZ_eq
name_quick tw18350330562280901221 for S.findZ by S.findZ_eq
name_quick tw10010936943081839664 for S.findZ by S.findZ_eq
name_quick tw17943406268862710625 for S.findZ by S.findZ_eq
name_quick tw3315324234476444515 for S.findZ by S.findZ_eq
name_quick tw18273839248471157720 for S.findZ by S.findZ_eq
name_quick tw12821735335276811757 for S.findZ by S.findZ_eq
name_quick tw7619357645376055252 for S.findZ by S.findZ_eq
name_quick tw15468230090516036684 for S.findZ by S.findZ_eq
name_quick tw14896874001708588922 for S.findZ by S.findZ_eq
name_quick tw9759809726879904816 for S.findZ by S.findZ_eq
name_quick tw5732905514179830355 for S.findZ by S.findZ_eq
name_quick tw607167704815816724 for S.findZ by S.findZ_eq
name_quick tw14311459727803291754 for S.findZ by S.findZ_eq
name_quick tw13607416678640721797 for S.findZ by S.findZ_eq
name_quick tw4410370849190367991 for S.findZ by S.findZ_eq
name_quick tw12334156363619760483 for S.findZ by S.findZ_eq
name_quick tw14186486079044719983 for S.findZ by S.findZ_eq
name_quick tw11277716924127702174 for S.findZ by S.findZ_eq
name_quick tw13215998728584607739 for S.findZ by S.findZ_eq
name_quick tw2968979199505139716 for S.findZ by S.findZ_eq
name_quick tw16741492637210864865 for S.findZ by S.findZ_eq
name_quick tw16865151637890581275 for S.findZ by S.findZ_eq
name_quick tw15348344930456518619 for S.findZ by S.findZ_eq
name_quick tw9285146279643344392 for S.findZ by S.findZ_eq
name_quick tw4278798014809849964 for S.findZ by S.findZ_eq
name_quick tw17954736447514056666 for S.findZ by S.findZ_eq
name_quick tw10308316962582663543 for S.findZ by S.findZ_eq
name_quick tw11130039905162102590 for S.findZ by S.findZ_eq
name_quick tw18101931140130867144 for S.findZ by S.findZ_eq
name_quick tw2193789692954389824 for S.findZ by S.findZ_eq
name_quick tw10073347824450446311 for S.findZ by S.findZ_eq
name_quick tw15007238320947547705 for S.findZ by S.findZ_eq
name_quick tw6974452197610581533 for S.findZ by S.findZ_eq
name_quick tw7585139358526817783 for S.findZ by S.findZ_eq
name_quick tw15168306246750427876 for S.findZ by S.findZ_eq
name_quick tw15560853006256673968 for S.findZ by S.findZ_eq
name_quick tw951843321253372498 for S.findZ by S.findZ_eq
name_quick tw12647630874787467225 for S.findZ by S.findZ_eq
name_quick tw14386061602966655976 for S.findZ by S.findZ_eq
name_quick tw3891137856419664920 for S.findZ by S.findZ_eq
name_quick tw13915792640404377917 for S.findZ by S.findZ_eq
name_quick tw17101871299007795629 for S.findZ by S.findZ_eq
name_quick tw16643379632663270332 for S.findZ by S.findZ_eq
name_quick tw16966814322356759819 for S.findZ by S.findZ_eq
name_quick tw4658958612460137192 for S.findZ by S.findZ_eq
name_quick tw8708707556590381134 for S.findZ by S.findZ_eq
name_quick tw17964007177503468958 for S.findZ by S.findZ_eq
name_quick tw16413963553889246368 for S.findZ by S.findZ_eq
name_quick tw6587116730350146372 for S.findZ by S.findZ_eq
name_quick tw3355348695024010778 for S.findZ by S.findZ_eq
name_quick tw16494616584097029746 for S.findZ by S.findZ_eq
name_quick tw7299951869573292228 for S.findZ by S.findZ_eq
name_quick tw17888162413812561239 for S.findZ by S.findZ_eq
name_quick tw14537914154153760125 for S.findZ by S.findZ_eq
name_quick tw5882768191206486792 for S.findZ by S.findZ_eq
name_quick tw503676674663206642 for S.findZ by S.findZ_eq
name_quick tw14108194823987119177 for S.findZ by S.findZ_eq
name_quick tw3577408171920636059 for S.findZ by S.findZ_eq
name_quick tw912392155897948271 for S.findZ by S.findZ_eq
name_quick tw17164873540382356111 for S.findZ by S.findZ_eq
name_quick tw2977835846154297310 for S.findZ by S.findZ_eq
name_quick tw17071476683966804577 for S.findZ by S.findZ_eq
name_quick tw425412329055275883 for S.findZ by S.findZ_eq
name_quick tw17344680358763864322 for S.findZ by S.findZ_eq
name_quick tw17842620306162639686 for S.findZ by S.findZ_eq
name_quick tw5152784196030571298 for S.findZ by S.findZ_eq
name_quick tw4613930686462287906 for S.findZ by S.findZ_eq
name_quick tw8902219603052485911 for S.findZ by S.findZ_eq
name_quick tw16180582048198870337 for S.findZ by S.findZ_eq
name_quick tw1320183511955256522 for S.findZ by S.findZ_eq
name_quick tw9979284746773624096 for S.findZ by S.findZ_eq
name_quick tw4858009861420398278 for S.findZ by S.findZ_eq
name_quick tw10939839348159177617 for S.findZ by S.findZ_eq
name_quick tw11270796479367742343 for S.findZ by S.findZ_eq
name_quick tw3820604794100220378 for S.findZ by S.findZ_eq
name_quick tw10948738476641704880 for S.findZ by S.findZ_eq
name_quick tw17975652961387846372 for S.findZ by S.findZ_eq
name_quick tw8032284361305108907 for S.findZ by S.findZ_eq
name_quick tw8656719876789144132 for S.findZ by S.findZ_eq
name_quick tw15278061642289888581 for S.findZ by S.findZ_eq
name_quick tw11398097091735476289 for S.findZ by S.findZ_eq
name_quick tw4405960384096086239 for S.findZ by S.findZ_eq
name_quick tw17274371674624000324 for S.findZ by S.findZ_eq
name_quick tw5357591511691535388 for S.findZ by S.findZ_eq
name_quick tw4527066259768149269 for S.findZ by S.findZ_eq
name_quick tw8224813933742928703 for S.findZ by S.findZ_eq
name_quick tw7081425507203772304 for S.findZ by S.findZ_eq
name_quick tw1055568401681811165 for S.findZ by S.findZ_eq
name_quick tw14333388528381170442 for S.findZ by S.findZ_eq
name_quick tw11853533878840232495 for S.findZ by S.findZ_eq
name_quick tw12825359941727978080 for S.findZ by S.findZ_eq
name_quick tw17899373020297197333 for S.findZ by S.findZ_eq
name_quick tw10045867985992453528 for S.findZ by S.findZ_eq
name_quick tw3362959441861295915 for S.findZ by S.findZ_eq
name_quick tw11166942722945506595 for S.findZ by S.findZ_eq
name_quick tw1370275717833778536 for S.findZ by S.findZ_eq
name_quick tw8579058602437062094 for S.findZ by S.findZ_eq
name_quick tw12393455550290869266 for S.findZ by S.findZ_eq
name_quick tw5068434257544371817 for S.findZ by S.findZ_eq
name_quick tw12660628722211587041 for S.findZ by S.findZ_eq
name_quick tw16406328271908756883 for S.findZ by S.findZ_eq
name_quick tw17111948838632640456 for S.findZ by S.findZ_eq
name_quick tw4319705520415482375 for S.findZ by S.findZ_eq
name_quick tw17139780236743587250 for S.findZ by S.findZ_eq
name_quick tw16817318245366136608 for S.findZ by S.findZ_eq
name_quick tw16548257151911338427 for S.findZ by S.findZ_eq
name_quick tw17552769576498331613 for S.findZ by S.findZ_eq
name_quick tw13580328829973926956 for S.findZ by S.findZ_eq
name_quick tw1735497430108182060 for S.findZ by S.findZ_eq
name_quick tw16947794391021106201 for S.findZ by S.findZ_eq
name_quick tw6711915476519705758 for S.findZ by S.findZ_eq
name_quick tw4978915544186085027 for S.findZ by S.findZ_eq
name_quick tw15900120412870309639 for S.findZ by S.findZ_eq
name_quick tw10007627690174824804 for S.findZ by S.findZ_eq
name_quick tw4292500188555128830 for S.findZ by S.findZ_eq
name_quick tw5823794197072137003 for S.findZ by S.findZ_eq
name_quick tw2315820567201803617 for S.findZ by S.findZ_eq
name_quick tw7496433998918960881 for S.findZ by S.findZ_eq
name_quick tw17069979004554194336 for S.findZ by S.findZ_eq
name_quick tw15902184279288820625 for S.findZ by S.findZ_eq
name_quick tw10758038287306967139 for S.findZ by S.findZ_eq
name_quick tw13912434898499826684 for S.findZ by S.findZ_eq
name_quick tw3953757239420563355 for S.findZ by S.findZ_eq
name_quick tw11740888236361828772 for S.findZ by S.findZ_eq
name_quick tw1503297043503765363 for S.findZ by S.findZ_eq
name_quick tw7499937903120025604 for S.findZ by S.findZ_eq
name_quick tw1139862187096482527 for S.findZ by S.findZ_eq
name_quick tw5076957145309523181 for S.findZ by S.findZ_eq
name_quick tw17394056326795013819 for S.findZ by S.findZ_eq
name_quick tw15263041282635125899 for S.findZ by S.findZ_eq
name_quick tw14778209649434054790 for S.findZ by S.findZ_eq
name_quick tw12659028871203227004 for S.findZ by S.findZ_eq
name_quick tw9931943479562821362 for S.findZ by S.findZ_eq
name_quick tw2905824091091238844 for S.findZ by S.findZ_eq
name_quick tw136631920214876835 for S.findZ by S.findZ_eq
name_quick tw2378363196638174374 for S.findZ by S.findZ_eq
name_quick tw5721027456603625697 for S.findZ by S.findZ_eq
name_quick tw13317431791736044220 for S.findZ by S.findZ_eq
name_quick tw12290603225136948437 for S.findZ by S.findZ_eq
name_quick tw389472881494512206 for S.findZ by S.findZ_eq
name_quick tw6122645084068987007 for S.findZ by S.findZ_eq
name_quick tw15562837088269578035 for S.findZ by S.findZ_eq
name_quick tw2313353295222260650 for S.findZ by S.findZ_eq
name_quick tw1537898542681612871 for S.findZ by S.findZ_eq
name_quick tw14209830616999942402 for S.findZ by S.findZ_eq
name_quick tw14714103240675001986 for S.findZ by S.findZ_eq
name_quick tw1041845030581493396 for S.findZ by S.findZ_eq
name_quick tw17503288770812694035 for S.findZ by S.findZ_eq
name_quick tw2422670821966735624 for S.findZ by S.findZ_eq
name_quick tw8860024209350480642 for S.findZ by S.findZ_eq
name_quick tw7581816359482902497 for S.findZ by S.findZ_eq
name_quick tw9594665118957945026 for S.findZ by S.findZ_eq
name_quick tw1708024556718086227 for S.findZ by S.findZ_eq
name_quick tw3778451253796500701 for S.findZ by S.findZ_eq
name_quick tw3267979357774110234 for S.findZ by S.findZ_eq
name_quick tw7397068168572129948 for S.findZ by S.findZ_eq
name_quick tw17476080006546285661 for S.findZ by S.findZ_eq
name_quick tw11333186260410459676 for S.findZ by S.findZ_eq
name_quick tw15423634916342008072 for S.findZ by S.findZ_eq
name_quick tw16869277618539721502 for S.findZ by S.findZ_eq
name_quick tw9501820088010722379 for S.findZ by S.findZ_eq
name_quick tw3282434896037501709 for S.findZ by S.findZ_eq
name_quick tw2627984346626558326 for S.findZ by S.findZ_eq
name_quick tw16752143609539240740 for S.findZ by S.findZ_eq
name_quick tw183835017167291270 for S.findZ by S.findZ_eq
name_quick tw16873187988247708562 for S.findZ by S.findZ_eq
name_quick tw7198390536060210744 for S.findZ by S.findZ_eq
name_quick tw4075660801711882420 for S.findZ by S.findZ_eq
name_quick tw5565278806992967083 for S.findZ by S.findZ_eq
name_quick tw11519604305632133818 for S.findZ by S.findZ_eq
name_quick tw15823609455315575823 for S.findZ by S.findZ_eq
name_quick tw12898947447245864913 for S.findZ by S.findZ_eq
name_quick tw6426273055680023932 for S.findZ by S.findZ_eq
name_quick tw5189142188285759775 for S.findZ by S.findZ_eq
name_quick tw16350708796919097252 for S.findZ by S.findZ_eq
name_quick tw724751600484774222 for S.findZ by S.findZ_eq
name_quick tw2283851925072248500 for S.findZ by S.findZ_eq
name_quick tw17954471519018878134 for S.findZ by S.findZ_eq
name_quick tw4302124980754421698 for S.findZ by S.findZ_eq
name_quick tw11518781747449614426 for S.findZ by S.findZ_eq
name_quick tw11588390666370768167 for S.findZ by S.findZ_eq
name_quick tw725871291056497461 for S.findZ by S.findZ_eq
name_quick tw6179359751918216688 for S.findZ by S.findZ_eq
name_quick tw6789855027759293466 for S.findZ by S.findZ_eq
name_quick tw9458956999447867950 for S.findZ by S.findZ_eq
name_quick tw5529568453561195837 for S.findZ by S.findZ_eq
name_quick tw5923252988546675246 for S.findZ by S.findZ_eq
name_quick tw2872055958363810538 for S.findZ by S.findZ_eq
name_quick tw12734952128020822468 for S.findZ by S.findZ_eq
name_quick tw12182807814244774211 for S.findZ by S.findZ_eq
name_quick tw667198328695590252 for S.findZ by S.findZ_eq
name_quick tw7094674258960923220 for S.findZ by S.findZ_eq
name_quick tw13314330512976039754 for S.findZ by S.findZ_eq
name_quick tw8796240567053077481 for S.findZ by S.findZ_eq
name_quick tw4966893808263662355 for S.findZ by S.findZ_eq
name_quick tw10919533547850550483 for S.findZ by S.findZ_eq
name_quick tw11817470609975844035 for S.findZ by S.findZ_eq
name_quick tw8450942572126056277 for S.findZ by S.findZ_eq
name_quick tw14981143343336467331 for S.findZ by S.findZ_eq
name_quick tw10103082736851635080 for S.findZ by S.findZ_eq
name_quick tw17000155066101142889 for S.findZ by S.findZ_eq
name_quick tw2354101950205528012 for S.findZ by S.findZ_eq
name_quick tw16439824349840649037 for S.findZ by S.findZ_eq
name_quick tw2334299552400917057 for S.findZ by S.findZ_eq
name_quick tw16339471991904476338 for S.findZ by S.findZ_eq
name_quick tw14323765505736481980 for S.findZ by S.findZ_eq
name_quick tw16593013826814733010 for S.findZ by S.findZ_eq
name_quick tw15490439104401381959 for S.findZ by S.findZ_eq
name_quick tw16643706677886111943 for S.findZ by S.findZ_eq
name_quick tw16374537267813192141 for S.findZ by S.findZ_eq
name_quick tw10887116778572429059 for S.findZ by S.findZ_eq
name_quick tw1419416864934026935 for S.findZ by S.findZ_eq
name_quick tw10323183001455561277 for S.findZ by S.findZ_eq
name_quick tw3424931102881643321 for S.findZ by S.findZ_eq
name_quick tw9219426015542480343 for S.findZ by S.findZ_eq
name_quick tw1631149150583789468 for S.findZ by S.findZ_eq
name_quick tw5349121933718820234 for S.findZ by S.findZ_eq
name_quick tw9136488742655976645 for S.findZ by S.findZ_eq
name_quick tw15919542637913265678 for S.findZ by S.findZ_eq
name_quick tw15980859228951719591 for S.findZ by S.findZ_eq
name_quick tw17532440430192770315 for S.findZ by S.findZ_eq
name_quick tw7398270241245271220 for S.findZ by S.findZ_eq
name_quick tw2670528217467546775 for S.findZ by S.findZ_eq
name_quick tw11825729669827539873 for S.findZ by S.findZ_eq
name_quick tw2478078296215019888 for S.findZ by S.findZ_eq
name_quick tw11964429278604863157 for S.findZ by S.findZ_eq
name_quick tw2611137233208623240 for S.findZ by S.findZ_eq
name_quick tw15773981995205291829 for S.findZ by S.findZ_eq
name_quick tw1102190903223815498 for S.findZ by S.findZ_eq
name_quick tw8206430501311747189 for S.findZ by S.findZ_eq
name_quick tw3105397867545767578 for S.findZ by S.findZ_eq
name_quick tw1402947280878808549 for S.findZ by S.findZ_eq
name_quick tw16296994325663420285 for S.findZ by S.findZ_eq
name_quick tw3976722010076183465 for S.findZ by S.findZ_eq
name_quick tw1258299570235058372 for S.findZ by S.findZ_eq
name_quick tw13833065179229638619 for S.findZ by S.findZ_eq
name_quick tw3520652585798765729 for S.findZ by S.findZ_eq
name_quick tw6722154040420286063 for S.findZ by S.findZ_eq
name_quick tw17988542015724977305 for S.findZ by S.findZ_eq
name_quick tw9504726810853072989 for S.findZ by S.findZ_eq
name_quick tw2370070277545300124 for S.findZ by S.findZ_eq
name_quick tw16846860572762119324 for S.findZ by S.findZ_eq
name_quick tw18410474027866654770 for S.findZ by S.findZ_eq
name_quick tw17672482021469178181 for S.findZ by S.findZ_eq
name_quick tw3972328310683599613 for S.findZ by S.findZ_eq
name_quick tw5396446701170858492 for S.findZ by S.findZ_eq
name_quick tw6679490504615227074 for S.findZ by S.findZ_eq
name_quick tw4936483359421988267 for S.findZ by S.findZ_eq
name_quick tw3327986453032591115 for S.findZ by S.findZ_eq
name_quick tw9763268239775435451 for S.findZ by S.findZ_eq
name_quick tw3695515675974049574 for S.findZ by S.findZ_eq
name_quick tw7392212959928792091 for S.findZ by S.findZ_eq
name_quick tw5697894365363955025 for S.findZ by S.findZ_eq
name_quick tw3442601649717412197 for S.findZ by S.findZ_eq
name_quick tw2902314222560053993 for S.findZ by S.findZ_eq
name_quick tw14821650378409806113 for S.findZ by S.findZ_eq
name_quick tw932993149863042379 for S.findZ by S.findZ_eq
name_quick tw6580340599500149305 for S.findZ by S.findZ_eq
name_quick tw11462045893675790159 for S.findZ by S.findZ_eq
name_quick tw1189734492583310 for S.findZ by S.findZ_eq
name_quick tw18263319221461684349 for S.findZ by S.findZ_eq
name_quick tw6380047634161181297 for S.findZ by S.findZ_eq
name_quick tw14073706353221006472 for S.findZ by S.findZ_eq
name_quick tw13678640442995254988 for S.findZ by S.findZ_eq
name_quick tw16417370028952169744 for S.findZ by S.findZ_eq
name_quick tw11543547407058413889 for S.findZ by S.findZ_eq
name_quick tw13925586954763233925 for S.findZ by S.findZ_eq
name_quick tw1886563365779066154 for S.findZ by S.findZ_eq
name_quick tw4549333791460862111 for S.findZ by S.findZ_eq
name_quick tw6019396324639902685 for S.findZ by S.findZ_eq
name_quick tw2401699919119007470 for S.findZ by S.findZ_eq
name_quick tw1085346719588807367 for S.findZ by S.findZ_eq
name_quick tw8253183596043897158 for S.findZ by S.findZ_eq
name_quick tw5862295025349918931 for S.findZ by S.findZ_eq
name_quick tw6363645014702824404 for S.findZ by S.findZ_eq
name_quick tw14973007898608030118 for S.findZ by S.findZ_eq
name_quick tw8075568018651887793 for S.findZ by S.findZ_eq
name_quick tw17001327861769816259 for S.findZ by S.findZ_eq
name_quick tw9537544019596298400 for S.findZ by S.findZ_eq
name_quick tw14433975572909055671 for S.findZ by S.findZ_eq
name_quick tw5268983451555188008 for S.findZ by S.findZ_eq
name_quick tw14971970265804392439 for S.findZ by S.findZ_eq
name_quick tw3094477031063562474 for S.findZ by S.findZ_eq
name_quick tw17100903815162463580 for S.findZ by S.findZ_eq
name_quick tw15066959818950650227 for S.findZ by S.findZ_eq
name_quick tw14214133299417103183 for S.findZ by S.findZ_eq
name_quick tw9577309144901391297 for S.findZ by S.findZ_eq
name_quick tw15542691292777871779 for S.findZ by S.findZ_eq
name_quick tw12813236842856870187 for S.findZ by S.findZ_eq
name_quick tw13335737130258781183 for S.findZ by S.findZ_eq
name_quick tw16942194440817826258 for S.findZ by S.findZ_eq
name_quick tw11968802755003891477 for S.findZ by S.findZ_eq
name_quick tw7987952416473584550 for S.findZ by S.findZ_eq
name_quick tw11716543307763669751 for S.findZ by S.findZ_eq
name_quick tw12832477231654346042 for S.findZ by S.findZ_eq
name_quick tw9151444980202551346 for S.findZ by S.findZ_eq
name_quick tw313226197891681235 for S.findZ by S.findZ_eq
name_quick tw16018607276475445134 for S.findZ by S.findZ_eq
name_quick tw3152983702415266003 for S.findZ by S.findZ_eq
name_quick tw3436264866546951355 for S.findZ by S.findZ_eq
name_quick tw1706496860858754268 for S.findZ by S.findZ_eq
name_quick tw2862820112641550484 for S.findZ by S.findZ_eq
name_quick tw9396933662098498411 for S.findZ by S.findZ_eq
name_quick tw12488000419048109807 for S.findZ by S.findZ_eq
name_quick tw13254397897704925713 for S.findZ by S.findZ_eq
name_quick tw13776390136698705113 for S.findZ by S.findZ_eq
name_quick tw5752458178927563391 for S.findZ by S.findZ_eq
name_quick tw11625766737575182897 for S.findZ by S.findZ_eq
name_quick tw7503421922109321716 for S.findZ by S.findZ_eq
name_quick tw6550987210724342151 for S.findZ by S.findZ_eq
name_quick tw11186114360453789277 for S.findZ by S.findZ_eq
name_quick tw900395245841561262 for S.findZ by S.findZ_eq
name_quick tw6434265647005701932 for S.findZ by S.findZ_eq
name_quick tw4921902886906138986 for S.findZ by S.findZ_eq
name_quick tw716658179208862652 for S.findZ by S.findZ_eq
name_quick tw7098571738820278039 for S.findZ by S.findZ_eq
name_quick tw14305139224198610471 for S.findZ by S.findZ_eq
name_quick tw3209381107111851631 for S.findZ by S.findZ_eq
name_quick tw12945451867199242903 for S.findZ by S.findZ_eq
name_quick tw8098380416015320538 for S.findZ by S.findZ_eq
name_quick tw11790162104776037713 for S.findZ by S.findZ_eq
name_quick tw16874561944515371726 for S.findZ by S.findZ_eq
name_quick tw7401281599722004195 for S.findZ by S.findZ_eq
name_quick tw11310463157757771331 for S.findZ by S.findZ_eq
name_quick tw4525517667737911620 for S.findZ by S.findZ_eq
name_quick tw9265879793445154701 for S.findZ by S.findZ_eq
name_quick tw7999228329439636462 for S.findZ by S.findZ_eq
name_quick tw15195428891847259777 for S.findZ by S.findZ_eq
name_quick tw17026713947507217902 for S.findZ by S.findZ_eq
name_quick tw12224578244612797663 for S.findZ by S.findZ_eq
name_quick tw3865406201487662470 for S.findZ by S.findZ_eq
name_quick tw16697116713213952808 for S.findZ by S.findZ_eq
name_quick tw608726401823008365 for S.findZ by S.findZ_eq
name_quick tw6148621092414575339 for S.findZ by S.findZ_eq
name_quick tw878741703135273975 for S.findZ by S.findZ_eq
name_quick tw5345256250457102556 for S.findZ by S.findZ_eq
name_quick tw5770868932273138760 for S.findZ by S.findZ_eq
name_quick tw9281714027785469542 for S.findZ by S.findZ_eq
name_quick tw5248340912204065574 for S.findZ by S.findZ_eq
name_quick tw1962928258387122110 for S.findZ by S.findZ_eq
name_quick tw16241802466949684156 for S.findZ by S.findZ_eq
name_quick tw9315938663221665524 for S.findZ by S.findZ_eq
name_quick tw6059929106960060952 for S.findZ by S.findZ_eq
name_quick tw4904739604578439355 for S.findZ by S.findZ_eq
name_quick tw1333364371103165705 for S.findZ by S.findZ_eq
name_quick tw1204117194425446250 for S.findZ by S.findZ_eq
name_quick tw9673203406766833760 for S.findZ by S.findZ_eq
name_quick tw12237943961548833269 for S.findZ by S.findZ_eq
name_quick tw2922074901204462755 for S.findZ by S.findZ_eq
name_quick tw13642483538084851733 for S.findZ by S.findZ_eq
name_quick tw8603108125212654177 for S.findZ by S.findZ_eq
name_quick tw11994158751524154303 for S.findZ by S.findZ_eq
name_quick tw6214688769961185500 for S.findZ by S.findZ_eq
name_quick tw15199281503961881116 for S.findZ by S.findZ_eq
name_quick tw4039474712603431140 for S.findZ by S.findZ_eq
name_quick tw13615603153576403970 for S.findZ by S.findZ_eq
name_quick tw17554001833073541016 for S.findZ by S.findZ_eq
name_quick tw8881496252177385917 for S.findZ by S.findZ_eq
name_quick tw1218959903707654005 for S.findZ by S.findZ_eq
name_quick tw11863081143760314161 for S.findZ by S.findZ_eq
name_quick tw11838138170533393997 for S.findZ by S.findZ_eq
name_quick tw10205541121877940668 for S.findZ by S.findZ_eq
name_quick tw7299303143086499733 for S.findZ by S.findZ_eq
name_quick tw7365555872484859036 for S.findZ by S.findZ_eq
name_quick tw16916688483869632129 for S.findZ by S.findZ_eq
name_quick tw17828083071136270317 for S.findZ by S.findZ_eq
name_quick tw10042830170769951172 for S.findZ by S.findZ_eq
name_quick tw8017206721242287953 for S.findZ by S.findZ_eq
name_quick tw3325841961599345399 for S.findZ by S.findZ_eq
name_quick tw9236875199018929784 for S.findZ by S.findZ_eq
name_quick tw1620339239838986703 for S.findZ by S.findZ_eq
name_quick tw12945968074294007009 for S.findZ by S.findZ_eq
name_quick tw14553827428707814869 for S.findZ by S.findZ_eq
name_quick tw3039592710220408265 for S.findZ by S.findZ_eq
name_quick tw4575980220486274672 for S.findZ by S.findZ_eq
name_quick tw2660918139993853925 for S.findZ by S.findZ_eq
name_quick tw7581352650102555174 for S.findZ by S.findZ_eq
name_quick tw17532718790514356516 for S.findZ by S.findZ_eq
name_quick tw10833955939284561965 for S.findZ by S.findZ_eq
name_quick tw14837249469386935497 for S.findZ by S.findZ_eq
name_quick tw9948023125614773506 for S.findZ by S.findZ_eq
name_quick tw563124612126607214 for S.findZ by S.findZ_eq
name_quick tw10938465397075749097 for S.findZ by S.findZ_eq
name_quick tw721709456127091705 for S.findZ by S.findZ_eq
name_quick tw3118938333895590913 for S.findZ by S.findZ_eq
name_quick tw16180483070735683940 for S.findZ by S.findZ_eq
name_quick tw11682084944484805031 for S.findZ by S.findZ_eq
name_quick tw1414301608579184545 for S.findZ by S.findZ_eq
name_quick tw14223099787259518943 for S.findZ by S.findZ_eq
name_quick tw18163708392712065173 for S.findZ by S.findZ_eq
name_quick tw17018628822417861297 for S.findZ by S.findZ_eq
name_quick tw15475462885187679331 for S.findZ by S.findZ_eq
name_quick tw3636048126100218174 for S.findZ by S.findZ_eq
name_quick tw764782834095389478 for S.findZ by S.findZ_eq
name_quick tw5706481520468235054 for S.findZ by S.findZ_eq
name_quick tw8595292554425487202 for S.findZ by S.findZ_eq
name_quick tw11985326045990495214 for S.findZ by S.findZ_eq
name_quick tw5925582254088234700 for S.findZ by S.findZ_eq
name_quick tw11796506867022685745 for S.findZ by S.findZ_eq
name_quick tw6929956602132211858 for S.findZ by S.findZ_eq
name_quick tw18126140380344562322 for S.findZ by S.findZ_eq
name_quick tw16979880578912567463 for S.findZ by S.findZ_eq
name_quick tw12981051755390344553 for S.findZ by S.findZ_eq
name_quick tw17057272898397164401 for S.findZ by S.findZ_eq
name_quick tw325292655437039998 for S.findZ by S.findZ_eq
name_quick tw1107438419126420414 for S.findZ by S.findZ_eq
name_quick tw12392613427281201732 for S.findZ by S.findZ_eq
name_quick tw392140993173905013 for S.findZ by S.findZ_eq
name_quick tw18056578402003937789 for S.findZ by S.findZ_eq
name_quick tw10352308551163946355 for S.findZ by S.findZ_eq
name_quick tw7286323032743288035 for S.findZ by S.findZ_eq
name_quick tw10029231156530900338 for S.findZ by S.findZ_eq
name_quick tw8119918657739134586 for S.findZ by S.findZ_eq
name_quick tw8488268690174267210 for S.findZ by S.findZ_eq
name_quick tw4879560196417449868 for S.findZ by S.findZ_eq
name_quick tw18416463498863911781 for S.findZ by S.findZ_eq
name_quick tw12371321757623732685 for S.findZ by S.findZ_eq
name_quick tw8047484207015712433 for S.findZ by S.findZ_eq
name_quick tw11892598404827812706 for S.findZ by S.findZ_eq
name_quick tw8537084889766193716 for S.findZ by S.findZ_eq
name_quick tw16292439048969090190 for S.findZ by S.findZ_eq
name_quick tw17497748084772794779 for S.findZ by S.findZ_eq
name_quick tw4071324889030633612 for S.findZ by S.findZ_eq
name_quick tw12172078356533094185 for S.findZ by S.findZ_eq
name_quick tw12726346659333912481 for S.findZ by S.findZ_eq
name_quick tw3131671291697673992 for S.findZ by S.findZ_eq
name_quick tw15376083050721069600 for S.findZ by S.findZ_eq
name_quick tw15112985482279097393 for S.findZ by S.findZ_eq
name_quick tw7670514497116975361 for S.findZ by S.findZ_eq
name_quick tw12635297910168745909 for S.findZ by S.findZ_eq
name_quick tw18340240734955500558 for S.findZ by S.findZ_eq
name_quick tw2958062672499776758 for S.findZ by S.findZ_eq
name_quick tw13871001218405608335 for S.findZ by S.findZ_eq
name_quick tw8610040677353227653 for S.findZ by S.findZ_eq
name_quick tw13002492023102617099 for S.findZ by S.findZ_eq
name_quick tw13251646731365433171 for S.findZ by S.findZ_eq
name_quick tw1763209079605825380 for S.findZ by S.findZ_eq
name_quick tw16437185098154296904 for S.findZ by S.findZ_eq
name_quick tw13559156169165276386 for S.findZ by S.findZ_eq
name_quick tw3386650904741475044 for S.findZ by S.findZ_eq
name_quick tw12679591844961189642 for S.findZ by S.findZ_eq
name_quick tw12850107946570832962 for S.findZ by S.findZ_eq
name_quick tw4558998842232669794 for S.findZ by S.findZ_eq
name_quick tw7892128664451923741 for S.findZ by S.findZ_eq
name_quick tw2664551874359636763 for S.findZ by S.findZ_eq
name_quick tw347637069881736656 for S.findZ by S.findZ_eq
name_quick tw7469732015759309437 for S.findZ by S.findZ_eq
name_quick tw1638017585896720355 for S.findZ by S.findZ_eq
name_quick tw8400853705098224536 for S.findZ by S.findZ_eq
name_quick tw4681523508651956083 for S.findZ by S.findZ_eq
name_quick tw13252181687094117063 for S.findZ by S.findZ_eq
name_quick tw18220123701641295943 for S.findZ by S.findZ_eq
name_quick tw11036193050239951465 for S.findZ by S.findZ_eq
name_quick tw10487160056961263569 for S.findZ by S.findZ_eq
name_quick tw9951705424602377420 for S.findZ by S.findZ_eq
name_quick tw4552823106982906706 for S.findZ by S.findZ_eq
name_quick tw17765544955259793912 for S.findZ by S.findZ_eq
name_quick tw11957962974430299695 for S.findZ by S.findZ_eq
name_quick tw2039238271031011813 for S.findZ by S.findZ_eq
name_quick tw13759679279233594173 for S.findZ by S.findZ_eq
name_quick tw6448080314894763839 for S.findZ by S.findZ_eq
name_quick tw2447775223705975068 for S.findZ by S.findZ_eq
name_quick tw11277413387252134812 for S.findZ by S.findZ_eq
name_quick tw11495947367809530248 for S.findZ by S.findZ_eq
name_quick tw4679858250743294509 for S.findZ by S.findZ_eq
name_quick tw15542503528162795033 for S.findZ by S.findZ_eq
name_quick tw12329403913580668285 for S.findZ by S.findZ_eq
name_quick tw11707433790658880453 for S.findZ by S.findZ_eq
name_quick tw441327347791068078 for S.findZ by S.findZ_eq
name_quick tw9908251947323293946 for S.findZ by S.findZ_eq
name_quick tw5032809538720368765 for S.findZ by S.findZ_eq
name_quick tw18345786424863182364 for S.findZ by S.findZ_eq
name_quick tw505943868828395459 for S.findZ by S.findZ_eq
name_quick tw6792406925840432001 for S.findZ by S.findZ_eq
name_quick tw10670733350059645105 for S.findZ by S.findZ_eq
name_quick tw7276740287692124622 for S.findZ by S.findZ_eq
name_quick tw17520869792638436183 for S.findZ by S.findZ_eq
name_quick tw10314498396905981064 for S.findZ by S.findZ_eq
name_quick tw9626621113073979434 for S.findZ by S.findZ_eq
name_quick tw1092655722715705105 for S.findZ by S.findZ_eq
name_quick tw17814930658547583709 for S.findZ by S.findZ_eq
name_quick tw14420389602138693270 for S.findZ by S.findZ_eq
name_quick tw6012508502120743258 for S.findZ by S.findZ_eq
name_quick tw618205885557783147 for S.findZ by S.findZ_eq
name_quick tw6213141578215901147 for S.findZ by S.findZ_eq
name_quick tw14210447440969649564 for S.findZ by S.findZ_eq
name_quick tw5701610774189311196 for S.findZ by S.findZ_eq
name_quick tw11317593695737139937 for S.findZ by S.findZ_eq
name_quick tw6817277305950994716 for S.findZ by S.findZ_eq
name_quick tw16349216596472256690 for S.findZ by S.findZ_eq
name_quick tw17774800907425398282 for S.findZ by S.findZ_eq
name_quick tw17913803186225011329 for S.findZ by S.findZ_eq
name_quick tw6090905460779295987 for S.findZ by S.findZ_eq
name_quick tw11420187438672877268 for S.findZ by S.findZ_eq
name_quick tw12866136484021002089 for S.findZ by S.findZ_eq
name_quick tw5111356299099525756 for S.findZ by S.findZ_eq
name_quick tw9821368406582625841 for S.findZ by S.findZ_eq
name_quick tw14112274594779413971 for S.findZ by S.findZ_eq
name_quick tw11939915149646268982 for S.findZ by S.findZ_eq
name_quick tw8642067239939848140 for S.findZ by S.findZ_eq
name_quick tw11013792430000457035 for S.findZ by S.findZ_eq
name_quick tw5832503352825792928 for S.findZ by S.findZ_eq
name_quick tw5518745428033880147 for S.findZ by S.findZ_eq
name_quick tw18011898689540126615 for S.findZ by S.findZ_eq
name_quick tw4748654258956052638 for S.findZ by S.findZ_eq
name_quick tw7745614565497352828 for S.findZ by S.findZ_eq
name_quick tw8732485361984058174 for S.findZ by S.findZ_eq
name_quick tw17537794083376710389 for S.findZ by S.findZ_eq
name_quick tw6683783046931543321 for S.findZ by S.findZ_eq
name_quick tw8727135674562949291 for S.findZ by S.findZ_eq
name_quick tw4797165386629745026 for S.findZ by S.findZ_eq
name_quick tw16189536214700107852 for S.findZ by S.findZ_eq
name_quick tw12022618010286034681 for S.findZ by S.findZ_eq
name_quick tw2599325451414397859 for S.findZ by S.findZ_eq
name_quick tw17434858337260393937 for S.findZ by S.findZ_eq
name_quick tw10057510723706494237 for S.findZ by S.findZ_eq
name_quick tw14979626087600564940 for S.findZ by S.findZ_eq
name_quick tw13606957523739123596 for S.findZ by S.findZ_eq
name_quick tw470574548607681690 for S.findZ by S.findZ_eq
name_quick tw11452132507678324671 for S.findZ by S.findZ_eq
name_quick tw18123110421147349612 for S.findZ by S.findZ_eq
name_quick tw2408619945344806742 for S.findZ by S.findZ_eq
name_quick tw3560238982266916124 for S.findZ by S.findZ_eq
name_quick tw8424611434330503625 for S.findZ by S.findZ_eq
name_quick tw6125931036764729998 for S.findZ by S.findZ_eq
name_quick tw13900631225919944168 for S.findZ by S.findZ_eq
name_quick tw16223305294053301992 for S.findZ by S.findZ_eq
name_quick tw14023627001141898710 for S.findZ by S.findZ_eq
name_quick tw8376441433122354887 for S.findZ by S.findZ_eq
name_quick tw4980102563643897964 for S.findZ by S.findZ_eq
name_quick tw15894407043143930727 for S.findZ by S.findZ_eq
name_quick tw18350638575300117064 for S.findZ by S.findZ_eq
name_quick tw12635813782599140982 for S.findZ by S.findZ_eq
name_quick tw12750523984047038209 for S.findZ by S.findZ_eq
name_quick tw3607936226758431359 for S.findZ by S.findZ_eq
name_quick tw15215539614974913122 for S.findZ by S.findZ_eq
name_quick tw4224760802259116069 for S.findZ by S.findZ_eq
name_quick tw5976474108018559520 for S.findZ by S.findZ_eq
name_quick tw11729385059970357855 for S.findZ by S.findZ_eq
name_quick tw14544052848187043789 for S.findZ by S.findZ_eq
name_quick tw13036272033356848781 for S.findZ by S.findZ_eq
name_quick tw11328821685186248670 for S.findZ by S.findZ_eq
name_quick tw930746551332336609 for S.findZ by S.findZ_eq
name_quick tw13044745171469061596 for S.findZ by S.findZ_eq
name_quick tw16366562015402752707 for S.findZ by S.findZ_eq
name_quick tw10227693086864044499 for S.findZ by S.findZ_eq
name_quick tw14326252917377295143 for S.findZ by S.findZ_eq
name_quick tw6654550962395885724 for S.findZ by S.findZ_eq
name_quick tw6245536207120538393 for S.findZ by S.findZ_eq
name_quick tw3470799630455053000 for S.findZ by S.findZ_eq
name_quick tw7563410482129957233 for S.findZ by S.findZ_eq
name_quick tw16349804527192203551 for S.findZ by S.findZ_eq
name_quick tw15450981722951097364 for S.findZ by S.findZ_eq
name_quick tw2504098582860672743 for S.findZ by S.findZ_eq
name_quick tw7788680626742099145 for S.findZ by S.findZ_eq
name_quick tw5200128776193632040 for S.findZ by S.findZ_eq
name_quick tw1377046205977697930 for S.findZ by S.findZ_eq
name_quick tw9564595351457756722 for S.findZ by S.findZ_eq
name_quick tw6380782515089751550 for S.findZ by S.findZ_eq
name_quick tw7323676302269181137 for S.findZ by S.findZ_eq
name_quick tw9305782018832362445 for S.findZ by S.findZ_eq
name_quick tw387338674003428930 for S.findZ by S.findZ_eq
name_quick tw17000458434675057986 for S.findZ by S.findZ_eq
name_quick tw5135500740108067664 for S.findZ by S.findZ_eq
name_quick tw2719445374943340272 for S.findZ by S.findZ_eq
name_quick tw3880421473898291048 for S.findZ by S.findZ_eq
name_quick tw16792545251062261874 for S.findZ by S.findZ_eq
name_quick tw17024950926791866790 for S.findZ by S.findZ_eq
name_quick tw15480198773659482676 for S.findZ by S.findZ_eq
name_quick tw9719247598863346662 for S.findZ by S.findZ_eq
name_quick tw16049961110935095269 for S.findZ by S.findZ_eq
name_quick tw7650934615059315214 for S.findZ by S.findZ_eq
name_quick tw11767421526060770920 for S.findZ by S.findZ_eq
name_quick tw7802139600951554647 for S.findZ by S.findZ_eq
name_quick tw10500077913531017323 for S.findZ by S.findZ_eq
name_quick tw9467589175468403638 for S.findZ by S.findZ_eq
name_quick tw10508251915553800215 for S.findZ by S.findZ_eq
name_quick tw8987815912523675519 for S.findZ by S.findZ_eq
name_quick tw17341736924252097559 for S.findZ by S.findZ_eq
name_quick tw10470071008263537045 for S.findZ by S.findZ_eq
name_quick tw17863021456227041891 for S.findZ by S.findZ_eq
name_quick tw117213463901210413 for S.findZ by S.findZ_eq
name_quick tw15742981410569661332 for S.findZ by S.findZ_eq
name_quick tw4775785305629353868 for S.findZ by S.findZ_eq
name_quick tw14530364306720264245 for S.findZ by S.findZ_eq
name_quick tw5902227825499142635 for S.findZ by S.findZ_eq
name_quick tw16655555454665732581 for S.findZ by S.findZ_eq
name_quick tw8989982439271903415 for S.findZ by S.findZ_eq
name_quick tw3764465048917985505 for S.findZ by S.findZ_eq
name_quick tw17279654841073493023 for S.findZ by S.findZ_eq
name_quick tw9413167413068371254 for S.findZ by S.findZ_eq
name_quick tw9800571698397750058 for S.findZ by S.findZ_eq
name_quick tw11566699232636054958 for S.findZ by S.findZ_eq
name_quick tw6714822604882049554 for S.findZ by S.findZ_eq
name_quick tw10424941004445345732 for S.findZ by S.findZ_eq
name_quick tw16176465441171805009 for S.findZ by S.findZ_eq
namespace Mine
set_option maxRecDepth 100000 in
set_option maxHeartbeats 8000000 in
open_top hd for PySem.Challenge.rw_pq1336_01
end Mine

open PySem PySem.W PyProof.Rows PySem.Spec PySem.Calls
namespace Mine
theorem top_off : True := by (w_top off); exact True.intro

section
-- part Base
/-! a call's contract, whatever else stands in the caller's ledger -/
/-! words are of the proof whose number stands among the facts -/
@[irreducible] noncomputable def Tg (_ : Nat) : Prop := True
theorem tgI (n : Nat) : Tg n := by unfold Tg; exact True.intro
noncomputable def Out (g : Heap) (s : Shared) (Post : Value → List (Addr × Obj) → Prop) (v : Value) (s' : Shared) : Prop :=
  ∃ (L' : Addr) (m' : Str → Option Value) (post : List (Addr × Obj)) (h' : Heap) (tk' : Nat), s' = { s with heap := h', toks := tk' } ∧ Fr g L' h' m' ∧ News g L' h' post ∧ Post v post
theorem Out.intro {g : Heap} {s : Shared} {Post : Value → List (Addr × Obj) → Prop} {v : Value} {h' : Heap} {tk' : Nat} {L' : Addr} {m' : Str → Option Value} {all : List (Addr × Obj)} (F : Fr g L' h' m') (N : News g L' h' all) (post : List (Addr × Obj)) (hs : ∀ p ∈ post, p ∈ all) (hp : Post v post) :
    Out g s Post v { s with heap := h', toks := tk' } := ⟨L', m', post, h', tk', rfl, F, fun p hp => N p (hs p hp), hp⟩

noncomputable def Off (l r : List (Addr × Obj)) : Prop := ∀ p ∈ l, ∀ q ∈ r, p.1 ≠ q.1

theorem code_defW {prog : Program} {w : World} {A₀ A : Around} {s : Shared} {base h₀ : Heap} {outer : List Env} {L : Addr} {m : Str → Option Value} {env : Env} {pre rest : List (Addr × Obj)} {E : Value → Shared → Prop} {Q : Value → Shared → Prop}
    {K : Frag} {p : Program} {loose : List Str} {mean : ExcName → Option Value} {mg mb : Str → Option Value} {name qual : Str} {params : Arguments} {body : List Stmt} {scope : Scope} {dV kV doc pm cdv ct oc : Value} {an od : Option Addr} {osl : Array (Option Value)} {f : Addr} {args : Args} {binds : List (Str × Value)} {Post : Value → List (Addr × Obj) → Prop}
    (B : Below A₀ base outer h₀) (F : Fr h₀ L s.heap m) (X₀ : K.In h₀) (N : News h₀ L s.heap (pre ++ rest)) (hoff : Off pre rest) (T : Top p loose mean mg mb h₀) (hA : A.frames = some (env :: outer)) (hf : env.frame = some L) (hke : env.scope.kind = .function)
    (ho : K.lookup f = some ⟨oc, od, .func (fnOf name qual params body scope dV kV doc pm an cdv ct), osl⟩) (hcd : codeIn K cdv qual = true) (hroom : A.depth < recursionLimit)
    (hbind : BindsTo s (fnOf name qual params body scope dV kV doc pm an cdv ct) args binds) (hloc : ∀ y ∈ binds, scope.names.lookup y.1 = some .local)
    (hret : ∀ (v : Value) (post : List (Addr × Obj)) (h' : Heap) (tk' : Nat), Fr h₀ L h' m → News h₀ L h' (post ++ rest) → Off post rest → Post v post → Q v { s with heap := h', toks := tk' })
    (h : ∀ g L' h₁, Fr h₀ L g m → Fr g L' h₁ (fun y => binds.reverse.lookup y) → News g L' h₁ pre → Below A base (env :: outer) g → K.In g → Top p loose mean mg mb g → GSub s.heap g (pre.map (·.1)) →
      wpAny (model prog w) (A.deeper (envOf qual scope L' f cdv)) (execs body (envOf qual scope L' f cdv))
        (fun fl s' => Out g s Post (match fl with | .ret v => v | _ => .none) s')
        (fun e s' => wpAny (model prog w) (A.deeper (envOf qual scope L' f cdv)) (leaving (envOf qual scope L' f cdv) e) (fun _ s'' => E e s'') (fun e' s'' => E e' s'') s')
        { s with heap := h₁, toks := s.toks + binds.length })
    (hco : scope.isCoroutine = false) (hgen : scope.isGenerator = false) (hk : scope.kind = .function)
    (hcell : ∀ x ∈ scope.names, x.2 ≠ .cell) : codeAny (model prog w) A (.call (.ref f) args) (fun r s' => match r with | .ok (.ret v) => Q v s' | .ok _ => False | .error e => E e s') s := by
  refine code_defG B F X₀ (fun q hq => N q (List.mem_append.mpr (.inl hq))) T hA hf hke ho hcd hroom hbind hloc (fun g L' h₁ F0 F1 N1 B1 X1 T1 G => ?_) hco hgen hk hcell
  refine wpAny_mono (h g L' h₁ F0 F1 N1 B1 X1 T1 G) (fun fl s' hl => ?_) fun _ _ x => x
  obtain ⟨L₂, m₂, post, h', tk', rfl, F2, N2, hP⟩ := hl
  refine leaveK_ F2 N2 fun kF kN => ?_
  have inG : ∀ q ∈ rest, g.get? q.1 = some q.2 := fun q hq => G _ _ (N q (List.mem_append.mpr (.inr hq))).1 fun hm => by
    obtain ⟨r, hr, e⟩ := List.mem_map.mp hm
    exact hoff r hr q hq e
  refine hret _ post h' tk' kF (fun q hq => ?_) (fun q hq r hr e => ?_) hP
  · rcases List.mem_append.mp hq with hq | hq
    · exact kN q hq
    · have hN := N q (List.mem_append.mpr (.inr hq))
      exact ⟨F2.keep _ _ (inG q hq), hN.2⟩
  · have h1 := (N2 q hq).2.2
    rw [e, inG r hr] at h1
    cases h1

theorem code_defGC {prog : Program} {w : World} {A₀ A : Around} {s : Shared} {base h₀ : Heap} {outer : List Env} {L : Addr} {m : Str → Option Value} {env : Env} {news : List (Addr × Obj)}
    {K : Frag} {p : Program} {loose : List Str} {mean : ExcName → Option Value} {mg mb : Str → Option Value} {R : Result → Shared → Prop} {name qual : Str} {params : Arguments} {body : List Stmt} {scope : Scope} {dV kV doc pm cdv ct oc : Value} {an od : Option Addr} {osl : Array (Option Value)} {f : Addr} {args : Args} {binds : List (Str × Value)}
    (B : Below A₀ base outer h₀) (F : Fr h₀ L s.heap m) (X₀ : K.In h₀) (N : News h₀ L s.heap news) (T : Top p loose mean mg mb h₀) (hA : A.frames = some (env :: outer)) (hf : env.frame = some L) (hke : env.scope.kind = .function)
    (ho : K.lookup f = some ⟨oc, od, .func (fnOf name qual params body scope dV kV doc pm an cdv ct), osl⟩) (hcd : codeIn K cdv qual = true) (hroom : A.depth < recursionLimit)
    (hbind : BindsTo s (fnOf name qual params body scope dV kV doc pm an cdv ct) args binds) (hkind : (binds.all fun y => scope.names.lookup y.1 == some .local || scope.names.lookup y.1 == some .cell) = true)
    (hnd : ((cellsFrom 0 scope.names []).map (·.1)).Nodup)
    (h : ∀ g L' h₁ tk cells, Fr h₀ L g m → Fr g L' h₁ (bindL (envOfC qual scope L' f cdv).kindOf binds fun _ => none) → News g L' h₁ (cells ++ news) →
      CellsAre (bindC (envOfC qual scope L' f cdv).kindOf binds fun _ => none) (cellsFrom (L' + 1) scope.names []) cells → Below A base (env :: outer) g → K.In g → Top p loose mean mg mb g → (∀ p ∈ news, p.1 < L') → GSub s.heap g (news.map (·.1)) →
      wpAny (model prog w) (A.deeper (envOfC qual scope L' f cdv)) (execs body (envOfC qual scope L' f cdv))
        (fun fl s' => LeaveK h₀ L m g R (match fl with | .ret v => v | _ => .none) s')
        (fun e s' => wpAny (model prog w) (A.deeper (envOfC qual scope L' f cdv)) (leaving (envOfC qual scope L' f cdv) e) (fun _ s'' => R (.error e) s'') (fun e' s'' => R (.error e') s'') s')
        { s with heap := h₁, toks := tk })
    (hco : scope.isCoroutine = false) (hgen : scope.isGenerator = false) (hk : scope.kind = .function) : codeAny (model prog w) A (.call (.ref f) args) R s := by
  obtain ⟨FG, BG, st, lv⟩ := groundX (R := R) B F N hA hf hke
  have hcd' := codeRec_of (X₀.keeps F.keep) hcd
  have hkind' := kindsX hkind
  refine codeAny_call_function (fd := fnX name qual params body scope [] dV kV doc pm an cdv ct) hroom ((X₀.keeps F.keep) _ _ ho) rfl hco hgen rfl hcd' (hbind _ _ _ _ ?_)
  refine wpAny_newFunctionEnv_cells hk (hkind' _) fun env' he s' x => ?_
  subst he
  refine ⟨(T.nolimit.keeps F.keep).keeps x.toInCall.keep, codeAny_func ?_⟩
  obtain ⟨h₁, tk, rfl, _⟩ := x.done
  have hk₁ := x.toInCall.keep
  obtain ⟨cells, NC, Y⟩ := Cl.news (h₀ := s.heap) (Nat.le_refl _) fun n c hm => ⟨x.cell n c (lookup_of_mem_nodup (cellsFrom_names scope.names 0 (s.heap.objs.size + 1) [] [] rfl ▸ hnd) hm), x.above n c hm⟩
  refine wpAny_mono (h _ s.heap.objs.size h₁ tk cells FG ⟨x.toInCall.ns, fun b o e => hk₁ b o (of_hideAll _ e), Nat.le_of_eq (hideAll_size _ _)⟩ (fun p hp => ?_) Y BG (X₀.keeps st) (T.keeps st) (fun p hp => Heap.lt_size (N p hp).1) fun b o e n => hideAll_get _ e n) (fun fl s' hl => lv _ _ hl) fun _ _ y => y
  rcases List.mem_append.mp hp with hp | hp
  · refine ⟨(NC p hp).1, (NC p hp).2.1, ?_⟩
    cases q : (hideAll s.heap (news.map (·.1))).get? p.1 with
    | none => rfl
    | some o => have := of_hideAll _ q; rw [(NC p hp).2.2] at this; cases this
  · exact ⟨hk₁ _ _ (N p hp).1, Nat.ne_of_lt (Heap.lt_size (N p hp).1), hideAll_none _ (List.mem_map_of_mem hp)⟩

theorem code_defWC {prog : Program} {w : World} {A₀ A : Around} {s : Shared} {base h₀ : Heap} {outer : List Env} {L : Addr} {m : Str → Option Value} {env : Env} {pre rest : List (Addr × Obj)} {E : Value → Shared → Prop} {Q : Value → Shared → Prop}
    {K : Frag} {p : Program} {loose : List Str} {mean : ExcName → Option Value} {mg mb : Str → Option Value} {name qual : Str} {params : Arguments} {body : List Stmt} {scope : Scope} {dV kV doc pm cdv ct oc : Value} {an od : Option Addr} {osl : Array (Option Value)} {f : Addr} {args : Args} {binds : List (Str × Value)} {Post : Value → List (Addr × Obj) → Prop}
    (B : Below A₀ base outer h₀) (F : Fr h₀ L s.heap m) (X₀ : K.In h₀) (N : News h₀ L s.heap (pre ++ rest)) (hoff : Off pre rest) (T : Top p loose mean mg mb h₀) (hA : A.frames = some (env :: outer)) (hf : env.frame = some L) (hke : env.scope.kind = .function)
    (ho : K.lookup f = some ⟨oc, od, .func (fnOf name qual params body scope dV kV doc pm an cdv ct), osl⟩) (hcd : codeIn K cdv qual = true) (hroom : A.depth < recursionLimit)
    (hbind : BindsTo s (fnOf name qual params body scope dV kV doc pm an cdv ct) args binds) (hkind : (binds.all fun y => scope.names.lookup y.1 == some .local || scope.names.lookup y.1 == some .cell) = true)
    (hnd : ((cellsFrom 0 scope.names []).map (·.1)).Nodup)
    (hret : ∀ (v : Value) (post : List (Addr × Obj)) (h' : Heap) (tk' : Nat), Fr h₀ L h' m → News h₀ L h' (post ++ rest) → Off post rest → Post v post → Q v { s with heap := h', toks := tk' })
    (h : ∀ g L' h₁ tk cells, Fr h₀ L g m → Fr g L' h₁ (bindL (envOfC qual scope L' f cdv).kindOf binds fun _ => none) → News g L' h₁ (cells ++ pre) →
      CellsAre (bindC (envOfC qual scope L' f cdv).kindOf binds fun _ => none) (cellsFrom (L' + 1) scope.names []) cells → Below A base (env :: outer) g → K.In g → Top p loose mean mg mb g → (∀ p ∈ pre, p.1 < L') → GSub s.heap g (pre.map (·.1)) →
      wpAny (model prog w) (A.deeper (envOfC qual scope L' f cdv)) (execs body (envOfC qual scope L' f cdv))
        (fun fl s' => Out g s Post (match fl with | .ret v => v | _ => .none) s')
        (fun e s' => wpAny (model prog w) (A.deeper (envOfC qual scope L' f cdv)) (leaving (envOfC qual scope L' f cdv) e) (fun _ s'' => E e s'') (fun e' s'' => E e' s'') s')
        { s with heap := h₁, toks := tk })
    (hco : scope.isCoroutine = false) (hgen : scope.isGenerator = false) (hk : scope.kind = .function) : codeAny (model prog w) A (.call (.ref f) args) (fun r s' => match r with | .ok (.ret v) => Q v s' | .ok _ => False | .error e => E e s') s := by
  refine code_defGC B F X₀ (fun q hq => N q (List.mem_append.mpr (.inl hq))) T hA hf hke ho hcd hroom hbind hkind hnd (fun g L' h₁ tk cells F0 F1 N1 Y1 B1 X1 T1 l1 G => ?_) hco hgen hk
  refine wpAny_mono (h g L' h₁ tk cells F0 F1 N1 Y1 B1 X1 T1 l1 G) (fun fl s' hl => ?_) fun _ _ x => x
  obtain ⟨L₂, m₂, post, h', tk', rfl, F2, N2, hP⟩ := hl
  refine leaveK_ F2 N2 fun kF kN => ?_
  have inG : ∀ q ∈ rest, g.get? q.1 = some q.2 := fun q hq => G _ _ (N q (List.mem_append.mpr (.inr hq))).1 fun hm => by
    obtain ⟨r, hr, e⟩ := List.mem_map.mp hm
    exact hoff r hr q hq e
  refine hret _ post h' tk' kF (fun q hq => ?_) (fun q hq r hr e => ?_) hP
  · rcases List.mem_append.mp hq with hq | hq
    · exact kN q hq
    · have hN := N q (List.mem_append.mpr (.inr hq))
      exact ⟨F2.keep _ _ (inG q hq), hN.2⟩
  · have h1 := (N2 q hq).2.2
    rw [e, inG r hr] at h1
    cases h1

/-- what a call of the text's def promises, from any frame -/
noncomputable abbrev CallsOk (w : World) (f : Addr) (vs : List Value) (dN uN : Nat) (pre : List (Addr × Obj)) (Hyp : Heap → Prop) (Post : Value → List (Addr × Obj) → Prop) : Prop :=
  ∀ (p : Program) (loose : List Str) (mean : ExcName → Option Value) (mg mb : Str → Option Value) (dp un : Nat) (gd : Option (List Code)) (cn : Str) (cs : Scope) (a : Addr) (ccd : Value) (cl : List (Str × Addr)) (outer : List Env) (A₀ : Around) (base h₀ : Heap) (L : Addr) (m : Str → Option Value) (rest : List (Addr × Obj)) (s : Shared) (Q E : Value → Shared → Prop),
    Below A₀ base outer h₀ → Fr h₀ L s.heap m → (Mine.hd.heap_39 w.params).In h₀ → News h₀ L s.heap (pre ++ rest) → Off pre rest → Top p loose mean mg mb h₀ → cs.kind = .function →
    dp + dN < recursionLimit → un + uN < cLine → Hyp s.heap →
    (∀ (v : Value) (post : List (Addr × Obj)) (h' : Heap) (tk' : Nat), Fr h₀ L h' m → News h₀ L h' (post ++ rest) → Off post rest → Post v post → Q v { s with heap := h', toks := tk' }) →
      wpAny (model PySem.Challenge.rw_pq1336_01.row.prog w) (ktrTop dp un gd cn cs L a ccd cl outer) (call (.ref f) vs) Q E s

/-! a stop of one's own -/
noncomputable def Halt (P : Prop) : Prop := P
theorem Halt.out {P : Prop} (h : Halt P) : P := h
theorem haltI {P : Prop} (h : P) : Halt P := h
theorem cut_execs {M : Model} {A : Around} {st : Stmt} {rest : List Stmt} {env : Env} {E : Value → Shared → Prop} {s : Shared} {Q : Flow → Shared → Prop} (Mid : Shared → Prop)
    (h1 : wpAny M A (exec st env) (fun f s' => match f with | .next => Mid s' | f => Q f s') E s) (h2 : ∀ s', Mid s' → wpAny M A (execs rest env) Q E s') : wpAny M A (execs (st :: rest) env) Q E s := by
  refine wpAny_execs_cons (wpAny_mono h1 (fun f s' hf => ?_) fun _ _ x => x)
  cases f with
  | next => exact h2 s' hf
  | _ => exact hf

/-! loops over a list of any values -/
section
variable {prog : Program} {w : World} {A : Around} {E : Value → Shared → Prop} {s : Shared} {env : Env} {h₀ : Heap} {x : Str} {body : List Stmt} {Q : Flow → Shared → Prop}
noncomputable def ValS {σ : Type} (Led : σ → List (Addr × Obj)) (ps : σ → List (Str × Value)) (x : Str) (stored : List Str) (m₀ : Str → Option Value) (P : σ → Prop) (m : Str → Option Value) (nx : List (Addr × Obj)) : Prop :=
  ∃ c : σ, nx = Led c ∧ (∀ p ∈ ps c, m p.1 = some p.2) ∧ (∀ z, z ≠ x → (∀ p ∈ ps c, z ≠ p.1) → stored.contains z = false → m z = m₀ z) ∧ P c
/-- a turn's end -/
noncomputable def Turn {σ : Type} (h₀ : Heap) (L : Addr) (x : Str) (Led : σ → List (Addr × Obj)) (ps : σ → List (Str × Value)) (stored : List Str) (m₀ : Str → Option Value) (P : σ → Prop) (own : List (Addr × Obj)) (adr : List Addr) (s₁ : Shared) (Q : Flow → Shared → Prop) (f : Flow) (s₂ : Shared) : Prop :=
  InvPostN h₀ L (ValS Led ps x stored m₀ P) own adr s₁ Q f s₂
theorem turn_next {σ : Type} {Led : σ → List (Addr × Obj)} {ps : σ → List (Str × Value)} {stored : List Str} {m₀ : Str → Option Value} {P : σ → Prop} {L : Addr} {m' : Str → Option Value} {own news' : List (Addr × Obj)} {adr : List Addr} {s₁ : Shared} {h' : Heap} {tk : Nat} (c : σ)
    (F : Fr h₀ L h' m') (N : News h₀ L h' news') (hn : ∀ p ∈ Led c, p ∈ news') (ho : ∀ p ∈ own, p ∈ news') (ha : (Led c).map (·.1) = adr) (hk : ∀ p ∈ ps c, m' p.1 = some p.2) (hr : ∀ z, z ≠ x → (∀ p ∈ ps c, z ≠ p.1) → stored.contains z = false → m' z = m₀ z) (hp : P c) :
    Turn h₀ L x Led ps stored m₀ P own adr s₁ Q .next { s₁ with heap := h', toks := tk } :=
  InvEndN.intro F N ⟨c, rfl, hk, hr, hp⟩ ha hn ho
theorem turn_cont {σ : Type} {Led : σ → List (Addr × Obj)} {ps : σ → List (Str × Value)} {stored : List Str} {m₀ : Str → Option Value} {P : σ → Prop} {L : Addr} {m' : Str → Option Value} {own news' : List (Addr × Obj)} {adr : List Addr} {s₁ : Shared} {h' : Heap} {tk : Nat} (c : σ)
    (F : Fr h₀ L h' m') (N : News h₀ L h' news') (hn : ∀ p ∈ Led c, p ∈ news') (ho : ∀ p ∈ own, p ∈ news') (ha : (Led c).map (·.1) = adr) (hk : ∀ p ∈ ps c, m' p.1 = some p.2) (hr : ∀ z, z ≠ x → (∀ p ∈ ps c, z ≠ p.1) → stored.contains z = false → m' z = m₀ z) (hp : P c) :
    Turn h₀ L x Led ps stored m₀ P own adr s₁ Q .cont { s₁ with heap := h', toks := tk } :=
  InvEndN.intro F N ⟨c, rfl, hk, hr, hp⟩ ha hn ho
theorem turn_ret {σ : Type} {Led : σ → List (Addr × Obj)} {ps : σ → List (Str × Value)} {stored : List Str} {m₀ : Str → Option Value} {P : σ → Prop} {L : Addr} {own : List (Addr × Obj)} {adr : List Addr} {s₁ s₂ : Shared} {v : Value} (h : Q (.ret v) s₂) :
    Turn h₀ L x Led ps stored m₀ P own adr s₁ Q (.ret v) s₂ := h
theorem turn_brk {σ : Type} {Led : σ → List (Addr × Obj)} {ps : σ → List (Str × Value)} {stored : List Str} {m₀ : Str → Option Value} {P : σ → Prop} {L : Addr} {own : List (Addr × Obj)} {adr : List Addr} {s₁ s₂ : Shared} (h : Q .next s₂) :
    Turn h₀ L x Led ps stored m₀ P own adr s₁ Q .brk s₂ := h

theorem loop_vals {σ : Type} {I : Addr} {fp wr : List Addr} {n : Nat} {Pv : Nat → Value → Prop} {St : Nat → Heap → Prop} {m₀ : Str → Option Value} (Led : σ → List (Addr × Obj)) (ps : σ → List (Str × Value)) (stored : List Str) (P : Nat → σ → Prop) (c₀ : σ)
    (W : Walks prog w A I fp wr n Pv St) (hLf : env.locals ∉ fp) (hwr : ∀ b ∈ wr, h₀.get? b = none) (hnw : ∀ p ∈ Led c₀, p.1 ∉ wr) (hfp : ∀ q ∈ Led c₀, q.1 ∉ fp) (hst : St 0 s.heap) (F : Fr h₀ env.locals s.heap m₀) (N : News h₀ env.locals s.heap (Led c₀)) (hk : ∀ p ∈ ps c₀, m₀ p.1 = some p.2) (hp : P 0 c₀)
    (turn : ∀ (c : σ) (i : Nat) v (u : Str → Option Value) h tk own, i < n → Pv i v → OwnOff own ((Led c₀).map (·.1)) → (Led c).map (·.1) = (Led c₀).map (·.1) → P i c →
      Fr h₀ env.locals h (fun y => if y = x then some v else kstB (fun z => if stored.contains z then u z else m₀ z) (ps c) y) → News h₀ env.locals h (Led c ++ own) →
      wpAny (model prog w) A (execs body env) (Turn h₀ env.locals x Led ps stored m₀ (P (i + 1)) own ((Led c₀).map (·.1)) { s with heap := h, toks := tk } Q) E { s with heap := h, toks := tk })
    (done : ∀ (c : σ) (u : Str → Option Value) h tk, P n c → Fr h₀ env.locals h (fun y => if y = x then u y else kstB (fun z => if stored.contains z then u z else m₀ z) (ps c) y) → News h₀ env.locals h (Led c) → Q .next { s with heap := h, toks := tk }) :
    LoopAtV prog w A h₀ env x body Q E (.ref I) s := by
  refine loop_invN (fun i m nx => ValS Led ps x stored m₀ (P i) m nx) W hLf hwr hnw hfp hst F N ⟨c₀, rfl, hk, fun _ _ _ _ => rfl, hp⟩ ?_ ?_
  · rintro i v m₁ nx h tk own hi hv hadr hoff ⟨c, rfl, h1, h2, hp'⟩ F₁ N₁
    exact turn c i v m₁ h tk own hi hv hoff hadr hp' (kst_fr h1 h2 F₁) N₁
  · rintro m₁ nx h tk ⟨c, rfl, h1, h2, hp'⟩ F₁ N₁
    exact done c m₁ h tk hp' (kst_frOut h1 h2 F₁) N₁

/-- over a list that stands below the frame -/
theorem for_list {σ : Type} {l : Addr} {vs : List Value} {m₀ : Str → Option Value} (Led : σ → List (Addr × Obj)) (ps : σ → List (Str × Value)) (stored : List Str) (P : Nat → σ → Prop) (c₀ : σ)
    (hh : A.handled = none) (hl : h₀.IsList l vs.toArray) (F : Fr h₀ env.locals s.heap m₀) (N : News h₀ env.locals s.heap (Led c₀)) (hk : ∀ p ∈ ps c₀, m₀ p.1 = some p.2) (hp : P 0 c₀)
    (turn : ∀ (c : σ) (i : Nat) v (u : Str → Option Value) h tk own, i < vs.length → vs[i]? = some v → OwnOff own ((Led c₀).map (·.1)) → (Led c).map (·.1) = (Led c₀).map (·.1) → P i c →
      Fr h₀ env.locals h (fun y => if y = x then some v else kstB (fun z => if stored.contains z then u z else m₀ z) (ps c) y) → News h₀ env.locals h (Led c ++ own) →
      wpAny (model prog w) A (execs body env) (Turn h₀ env.locals x Led ps stored m₀ (P (i + 1)) own ((Led c₀).map (·.1)) { s with heap := h, toks := tk } Q) E { s with heap := h, toks := tk })
    (done : ∀ (c : σ) (u : Str → Option Value) h tk, P vs.length c → Fr h₀ env.locals h (fun y => if y = x then u y else kstB (fun z => if stored.contains z then u z else m₀ z) (ps c) y) → News h₀ env.locals h (Led c) → Q .next { s with heap := h, toks := tk }) :
    wpAny (model prog w) A (pyIter (.ref l)) (fun it s₂ => LoopAtV prog w A h₀ env x body Q E it s₂) E s := by
  have hls : s.heap.IsList l vs.toArray := hl.at fun o e => F.keep l o e
  obtain ⟨ol, hol, _⟩ := id hl
  have hlt : l < h₀.objs.size := Heap.lt_size hol
  have hne : l ≠ s.heap.objs.size := Nat.ne_of_lt (Nat.lt_trans (Nat.lt_of_lt_of_le hlt F.above) F.ns.lt)
  refine wpAny_pyIter_list hls ?_
  have W := Walks.list (prog := prog) (w := w) hh s.heap.objs.size l hne vs.toArray
  rw [List.size_toArray] at W
  refine loop_vals Led ps stored P c₀ W ?_ ?_ ?_ ?_ ⟨⟨_, Heap.get?_push_size _ rfl, rfl, rfl⟩, hls.at fun o e => Heap.get?_push_of_some _ e⟩ (F.push _) (fun p hp => ⟨Heap.get?_push_of_some _ (N p hp).1, (N p hp).2⟩) hk hp ?_ done
  · intro hm
    rcases List.mem_cons.mp hm with e | hm
    · exact absurd F.ns.lt (e ▸ Nat.lt_irrefl _)
    · exact absurd (Nat.lt_of_lt_of_le hlt F.above) ((List.mem_singleton.mp hm) ▸ Nat.lt_irrefl _)
  · intro b hb
    rw [List.mem_singleton.mp hb]
    exact next_is_new F
  · intro p hp hI
    exact absurd (Heap.lt_size (N p hp).1) ((List.mem_singleton.mp hI) ▸ Nat.lt_irrefl _)
  · intro p hp hI
    rcases List.mem_cons.mp hI with e | hI
    · exact absurd (Heap.lt_size (N p hp).1) (e ▸ Nat.lt_irrefl _)
    · have h3 := (N p hp).2.2
      rw [List.mem_singleton.mp hI, hol] at h3
      cases h3
  · intro c i v u h tk own hi hv hoff ha hP F₁ N₁
    exact turn c i v u h tk own hi (by simpa using hv) hoff ha hP F₁ N₁

/-- over a text's signs -/
theorem for_text {σ : Type} {xt : Str} {tx : Tok} {m₀ : Str → Option Value} (Led : σ → List (Addr × Obj)) (ps : σ → List (Str × Value)) (stored : List Str) (P : Nat → σ → Prop) (c₀ : σ)
    (hh : A.handled = none) (F : Fr h₀ env.locals s.heap m₀) (N : News h₀ env.locals s.heap (Led c₀)) (hk : ∀ p ∈ ps c₀, m₀ p.1 = some p.2) (hp : P 0 c₀)
    (turn : ∀ (c : σ) (i n : Nat) (t : Nat) (u : Str → Option Value) h tk own, i < xt.cps.size → xt.cps[i]? = some n → OwnOff own ((Led c₀).map (·.1)) → (Led c).map (·.1) = (Led c₀).map (·.1) → P i c →
      Fr h₀ env.locals h (fun y => if y = x then some (.str ⟨#[n]⟩ t) else kstB (fun z => if stored.contains z then u z else m₀ z) (ps c) y) → News h₀ env.locals h (Led c ++ own) →
      wpAny (model prog w) A (execs body env) (Turn h₀ env.locals x Led ps stored m₀ (P (i + 1)) own ((Led c₀).map (·.1)) { s with heap := h, toks := tk } Q) E { s with heap := h, toks := tk })
    (done : ∀ (c : σ) (u : Str → Option Value) h tk, P xt.cps.size c → Fr h₀ env.locals h (fun y => if y = x then u y else kstB (fun z => if stored.contains z then u z else m₀ z) (ps c) y) → News h₀ env.locals h (Led c) → Q .next { s with heap := h, toks := tk }) :
    wpAny (model prog w) A (pyIter (.str xt tx)) (fun it s₂ => LoopAtV prog w A h₀ env x body Q E it s₂) E s := by
  refine wpAny_pyIter_str fun o St hW hst => ?_
  refine loop_vals Led ps stored P c₀ (hW A hh) ?_ ?_ ?_ ?_ hst (F.push _) (fun p hp => ⟨Heap.get?_push_of_some _ (N p hp).1, (N p hp).2⟩) hk hp ?_ done
  · intro hm
    exact absurd F.ns.lt ((List.mem_singleton.mp hm) ▸ Nat.lt_irrefl _)
  · intro b hb
    rw [List.mem_singleton.mp hb]
    exact next_is_new F
  · intro p hp hI
    exact absurd (Heap.lt_size (N p hp).1) ((List.mem_singleton.mp hI) ▸ Nat.lt_irrefl _)
  · intro p hp hI
    exact absurd (Heap.lt_size (N p hp).1) ((List.mem_singleton.mp hI) ▸ Nat.lt_irrefl _)
  · rintro c i v u h tk own hi ⟨n, t, hn, rfl⟩ hoff ha hP F₁ N₁
    exact turn c i n t u h tk own hi hn hoff ha hP F₁ N₁

/-- over a range -/
theorem for_range {σ : Type} {r : Addr} {a₀ b₀ : Int} {t₀ u₀ v₀ : Tok} {n : Nat} {m₀ : Str → Option Value} (Led : σ → List (Addr × Obj)) (ps : σ → List (Str × Value)) (stored : List Str) (P : Nat → σ → Prop) (c₀ : σ)
    (hh : A.handled = none) (hr : IsRange s.heap r a₀ b₀ 1 t₀ u₀ v₀) (hsmall : Builtin.Range.small a₀ b₀ 1 = true) (hn : Builtin.Range.rangeSize a₀ b₀ 1 = (n : Int)) (F : Fr h₀ env.locals s.heap m₀) (N : News h₀ env.locals s.heap (Led c₀)) (hk : ∀ p ∈ ps c₀, m₀ p.1 = some p.2) (hp : P 0 c₀)
    (turn : ∀ (c : σ) (i : Nat) (t : Nat) (u : Str → Option Value) h tk own, i < n → OwnOff own ((Led c₀).map (·.1)) → (Led c).map (·.1) = (Led c₀).map (·.1) → P i c →
      Fr h₀ env.locals h (fun y => if y = x then some (.int (a₀ + (i : Int)) t) else kstB (fun z => if stored.contains z then u z else m₀ z) (ps c) y) → News h₀ env.locals h (Led c ++ own) →
      wpAny (model prog w) A (execs body env) (Turn h₀ env.locals x Led ps stored m₀ (P (i + 1)) own ((Led c₀).map (·.1)) { s with heap := h, toks := tk } Q) E { s with heap := h, toks := tk })
    (done : ∀ (c : σ) (u : Str → Option Value) h tk, P n c → Fr h₀ env.locals h (fun y => if y = x then u y else kstB (fun z => if stored.contains z then u z else m₀ z) (ps c) y) → News h₀ env.locals h (Led c) → Q .next { s with heap := h, toks := tk }) :
    wpAny (model prog w) A (pyIter (.ref r)) (fun it s₂ => LoopAtV prog w A h₀ env x body Q E it s₂) E s := by
  refine wpAny_pyIter_range hr hsmall ?_
  have W : Walks prog w A s.heap.objs.size [s.heap.objs.size] [s.heap.objs.size] n (fun i v => i < n ∧ ∃ t, v = .int (a₀ + i * 1) t)
      (fun i h => IsRangeIter h s.heap.objs.size (a₀ + (i : Nat) * 1) ((n : Int) - (i : Nat)) 1) := (Walks.range hh _ a₀ 1 n).bound
  refine loop_vals Led ps stored P c₀ W ?_ ?_ ?_ ?_ (by show IsRangeIter _ _ _ _ _; rw [hn]; simpa using Heap.get?_push_size _ rfl) (F.push _) (fun p hp => ⟨Heap.get?_push_of_some _ (N p hp).1, (N p hp).2⟩) hk hp ?_ done
  · intro hm
    exact absurd F.ns.lt ((List.mem_singleton.mp hm) ▸ Nat.lt_irrefl _)
  · intro b hb
    rw [List.mem_singleton.mp hb]
    exact next_is_new F
  · intro p hp hI
    exact absurd (Heap.lt_size (N p hp).1) ((List.mem_singleton.mp hI) ▸ Nat.lt_irrefl _)
  · intro p hp hI
    exact absurd (Heap.lt_size (N p hp).1) ((List.mem_singleton.mp hI) ▸ Nat.lt_irrefl _)
  · rintro c i v u h tk own hi ⟨_, t, rfl⟩ hoff ha hP F₁ N₁
    have e1 : a₀ + (i : Int) * 1 = a₀ + (i : Int) := by omega
    rw [e1] at F₁
    exact turn c i t u h tk own hi hoff ha hP F₁ N₁
end

/-! contracts in use -/
section
variable {w : World} {f : Addr} {vs : List Value} {dN uN : Nat} {pre : List (Addr × Obj)} {Hyp : Heap → Prop} {Post : Value → List (Addr × Obj) → Prop}
  {p : Program} {loose : List Str} {mean : ExcName → Option Value} {mg mb : Str → Option Value} {dp un : Nat} {gd : Option (List Code)} {cn : Str} {cs : Scope} {a : Addr} {ccd : Value} {cl : List (Str × Addr)} {outer : List Env} {A₀ : Around} {base h₀ : Heap} {L : Addr} {m : Str → Option Value} {s : Shared} {Q E : Value → Shared → Prop}
theorem use0 {hQ : Heap} {gQ : _} {dQ : _} {tQ : Nat} {oQ : _} {all : List (Addr × Obj)} (H : CallsOk w f vs dN uN [] Hyp Post) (B : Below A₀ base outer h₀) (F : Fr h₀ L hQ m) (X : (Mine.hd.heap_39 w.params).In h₀) (N : News h₀ L hQ all) (T : Top p loose mean mg mb h₀) (hk : cs.kind = .function)
    (hd : dp + dN < recursionLimit) (hu : un + uN < cLine) (hy : Hyp hQ)
    (ret : ∀ (v : Value) (post : List (Addr × Obj)) (h' : Heap) (tk' : Nat), Fr h₀ L h' m → News h₀ L h' (post ++ all) → Off post all → Post v post → Q v ⟨h', gQ, dQ, tk', oQ⟩) :
    wpAny (model PySem.Challenge.rw_pq1336_01.row.prog w) (ktrTop dp un gd cn cs L a ccd cl outer) (call (.ref f) vs) Q E ⟨hQ, gQ, dQ, tQ, oQ⟩ :=
  H p loose mean mg mb dp un gd cn cs a ccd cl outer A₀ base h₀ L m all ⟨hQ, gQ, dQ, tQ, oQ⟩ Q E B F X (by rw [List.nil_append]; exact N) (fun _ h => nomatch h) T hk hd hu hy ret
@[irreducible] noncomputable def Pick (d : Addr) (o : Obj) (l r : List (Addr × Obj)) : Prop := ∀ q ∈ (d, o) :: r, q ∈ l
theorem Pick.head {d : Addr} {o : Obj} {zr1 : List (Addr × Obj)} : Pick d o ((d, o) :: zr1) zr1 := by unfold Pick; exact fun _ h => h
theorem Pick.tail {d : Addr} {o : Obj} {zp1 : Addr × Obj} {zr1 zr2 : List (Addr × Obj)} (zh1 : Pick d o zr1 zr2) : Pick d o (zp1 :: zr1) (zp1 :: zr2) := by
  unfold Pick at zh1 ⊢
  intro q hq
  rcases List.mem_cons.mp hq with rfl | hq
  · exact .tail _ (zh1 _ (.head _))
  · rcases List.mem_cons.mp hq with rfl | hq
    · exact .head _
    · exact .tail _ (zh1 _ (.tail _ hq))
theorem Pick.sub {d : Addr} {o : Obj} {l r : List (Addr × Obj)} (h : Pick d o l r) : ∀ q ∈ (d, o) :: r, q ∈ l := by unfold Pick at h; exact h
theorem use1 {hQ : Heap} {gQ : _} {dQ : _} {tQ : Nat} {oQ : _} {all rest : List (Addr × Obj)} {d : Addr} {o : Obj} (H : CallsOk w f vs dN uN [(d, o)] Hyp Post) (B : Below A₀ base outer h₀) (F : Fr h₀ L hQ m) (X : (Mine.hd.heap_39 w.params).In h₀) (N : News h₀ L hQ all) (T : Top p loose mean mg mb h₀) (hk : cs.kind = .function)
    (hd : dp + dN < recursionLimit) (hu : un + uN < cLine) (hy : Hyp hQ) (hp : Pick d o all rest) (hn : ∀ q ∈ rest, q.1 ≠ d)
    (ret : ∀ (v : Value) (post : List (Addr × Obj)) (h' : Heap) (tk' : Nat), Fr h₀ L h' m → News h₀ L h' (post ++ rest) → Off post rest → Post v post → Q v ⟨h', gQ, dQ, tk', oQ⟩) :
    wpAny (model PySem.Challenge.rw_pq1336_01.row.prog w) (ktrTop dp un gd cn cs L a ccd cl outer) (call (.ref f) vs) Q E ⟨hQ, gQ, dQ, tQ, oQ⟩ :=
  H p loose mean mg mb dp un gd cn cs a ccd cl outer A₀ base h₀ L m rest ⟨hQ, gQ, dQ, tQ, oQ⟩ Q E B F X (fun q hq => N q (hp.sub q hq)) (fun q hq r hr => by rw [List.mem_singleton.mp hq]; exact Ne.symm (hn r hr)) T hk hd hu hy ret
/-- any explicit part of the ledger -/
theorem useL {hQ : Heap} {gQ : _} {dQ : _} {tQ : Nat} {oQ : _} {all rest : List (Addr × Obj)} (H : CallsOk w f vs dN uN pre Hyp Post) (B : Below A₀ base outer h₀) (F : Fr h₀ L hQ m) (X : (Mine.hd.heap_39 w.params).In h₀) (N : News h₀ L hQ all) (T : Top p loose mean mg mb h₀) (hk : cs.kind = .function)
    (hd : dp + dN < recursionLimit) (hu : un + uN < cLine) (hy : Hyp hQ) (hp : ∀ q ∈ pre ++ rest, q ∈ all) (hn : Off pre rest)
    (ret : ∀ (v : Value) (post : List (Addr × Obj)) (h' : Heap) (tk' : Nat), Fr h₀ L h' m → News h₀ L h' (post ++ rest) → Off post rest → Post v post → Q v ⟨h', gQ, dQ, tk', oQ⟩) :
    wpAny (model PySem.Challenge.rw_pq1336_01.row.prog w) (ktrTop dp un gd cn cs L a ccd cl outer) (call (.ref f) vs) Q E ⟨hQ, gQ, dQ, tQ, oQ⟩ :=
  H p loose mean mg mb dp un gd cn cs a ccd cl outer A₀ base h₀ L m rest ⟨hQ, gQ, dQ, tQ, oQ⟩ Q E B F X (fun q hq => N q (hp q hq)) hn T hk hd hu hy ret
end
/-- a joint: what the frame's names hold, what is made -/
noncomputable def At {σ : Type} (g : Heap) (L : Addr) (s : Shared) (ps : σ → List (Str × Value)) (Led : σ → List (Addr × Obj)) (P : σ → Prop) (s' : Shared) : Prop :=
  ∃ (c : σ) (m₀ : Str → Option Value) (h : Heap) (tk : Nat), s' = { s with heap := h, toks := tk } ∧ Fr g L h (kstB m₀ (ps c)) ∧ News g L h (Led c) ∧ P c
theorem kstB_self {m : Str → Option Value} {ps : List (Str × Value)} (hk : ∀ q ∈ ps, m q.1 = some q.2) : kstB m ps = m := funext fun _ => kstB_eq hk fun _ => rfl
theorem At.intro {σ : Type} {g : Heap} {L : Addr} {s : Shared} {ps : σ → List (Str × Value)} {Led : σ → List (Addr × Obj)} {P : σ → Prop} {h : Heap} {tk : Nat} {m : Str → Option Value} {all : List (Addr × Obj)} (F : Fr g L h m) (N : News g L h all) (c : σ) (hs : ∀ q ∈ Led c, q ∈ all) (hk : ∀ q ∈ ps c, m q.1 = some q.2) (hp : P c) :
    At g L s ps Led P { s with heap := h, toks := tk } := ⟨c, m, h, tk, rfl, by rw [kstB_self hk]; exact F, fun q hq => N q (hs q hq), hp⟩
theorem execs_app (env : Env) : ∀ (xs ys : List Stmt), execs (xs ++ ys) env = (execs xs env >>= fun f => match f with | .next => execs ys env | f => pure f)
  | [], ys => by
    rw [List.nil_append]
    show _ = ((pure Flow.next : Sem Flow) >>= _)
    rw [pure_bind]
  | x :: xs, ys => by
    have h1 : ∀ l, execs (x :: l) env = (exec x env >>= fun f => match f with | .next => execs l env | f => pure f) := fun _ => rfl
    rw [List.cons_append, h1, h1, LawfulMonad.bind_assoc]
    refine congrArg (fun k => exec x env >>= k) (funext fun f => ?_)
    cases f with
    | next => exact execs_app env xs ys
    | _ => exact (pure_bind _ _).symm
theorem cut_at {M : Model} {A : Around} {env : Env} {E : Value → Shared → Prop} {Q : Flow → Shared → Prop} {l : List Stmt} {s : Shared} (n : Nat) (Mid : Shared → Prop)
    (h1 : wpAny M A (execs (l.take n) env) (fun f s' => match f with | .next => Mid s' | f => Q f s') E s) (h2 : ∀ s', Mid s' → wpAny M A (execs (l.drop n) env) Q E s') : wpAny M A (execs l env) Q E s := by
  have e := execs_app env (l.take n) (l.drop n)
  rw [List.take_append_drop] at e
  rw [e]
  refine wpAny_bind (wpAny_mono h1 (fun f s' hf => ?_) fun _ _ x => x)
  cases f with
  | next => exact h2 s' hf
  | _ => exact wpAny_pure hf

end

section
-- part Om
/-! plain reckoning, each in the least context (printed by om.py, omp.py) -/
theorem om2 : (((-(2 ^ 62)) : Int) ≤ 0) := by intros; exact Int.natCast_nonneg _
theorem om3 : ((0 : Int) < (2 ^ 62)) := by intros; exact Int.natCast_nonneg _
theorem om4 : ∀ {a : Nat} , (((-(2 ^ 62)) : Int) ≤ ((a : Nat) : Int)) := by intros; simp; done
theorem om18 : ∀ {a : Nat} {b : Nat} {c : Nat} , ((c : Nat) ≤ ((a + b) + 1)) → (((((a + b) + 2) - (c + 1)) : Nat) < (((a + b) + 2) - c)) := by intro a b c h; exact Nat.sub_lt_sub_left (Nat.lt_succ_of_le h) (Nat.lt_succ_self _)
theorem om25 : ∀ {a : Nat} , ((a : Nat) ≤ 1000) → ¬ ((((a : Nat) : Int) : Int) ≥ (2 ^ 63)) := by intros; lia
theorem om26 : ∀ {a : Nat} , ((a : Nat) < 4) → ((((a : Nat) : Int) : Int) < (2 ^ 62)) := by decide
theorem om27 : ∀ {a : Nat} {b : Nat} , ((b : Nat) < 4) → ((a : Nat) < b) → ((a : Nat) ≤ 4) := by intros; lia
theorem om28 : ∀ {a : Nat} , ((a : Nat) < 7) → ((((a : Nat) : Int) : Int) < (2 ^ 62)) := by decide
theorem om29 : ∀ {a : Nat} , ((a : Nat) < 7) → (((Int.toNat (((a : Nat) : Int) - 0)) : Nat) ≤ 16777216) := by decide
theorem om30 : ∀ {a : Nat} {b : Nat} , ((b : Nat) < 7) → ((a : Nat) = (Int.toNat (((b : Nat) : Int) - 0))) → ((a : Nat) ≤ 10000) := by intro a b h e; rw [e]; exact Nat.le_trans (Nat.le_of_lt h) (by decide)
theorem om31 : ∀ {a : Nat} {b : Nat} , ((b : Nat) < 7) → ((a : Nat) = (Int.toNat (((b : Nat) : Int) - 0))) → ((a : Nat) ≤ 6) := by intro a b h e; rw [e]; exact Nat.le_of_lt_succ h
theorem om32 : ∀ {a : Nat} , ((a : Nat) < 4) → ((a : Nat) ≤ 3) := by decide
theorem om33 : ∀ {a : Nat} {b : Nat} {c : Nat} {d : Nat} , ((b : Nat) ≤ 3) → ((c : Nat) = b) → ((a : Nat) = (min d c)) → ((a : Nat) ≤ 3) := by intro a b c d h e f; rw [f]; exact Nat.le_trans (Nat.min_le_right _ _) (e ▸ h)
theorem om34 : ∀ {a : Nat} {b : Nat} , ((a : Nat) ≤ 5) → ((b : Nat) = 5) → ((a : Nat) ≤ b) := fun h e => e ▸ h
theorem om35 : ∀ {a : Nat} {b : Nat} , ((b : Nat) ≤ 3) → ((a : Nat) = b) → ((a : Nat) ≤ 6) := by intro a b h e; rw [e]; exact Nat.le_trans h (by decide)
theorem om36 : ∀ {a : Nat} {b : Nat} , ((b : Nat) = 5) → (((min a b) : Nat) ≤ 20) := by intro a b e; subst e; exact Nat.le_trans (Nat.min_le_right _ _) (by decide)
theorem om37 : ∀ {a : Nat} {b : Nat} , ((b : Nat) ≤ 5) → ((a : Nat) = b) → ((a : Nat) ≤ 20) := by intro a b h e; rw [e]; exact Nat.le_trans h (by decide)
theorem om38 : ∀ {a : Nat} , ((1 : Nat) ≤ a) → (((((a : Nat) : Int) - 1) : Int) = (((a - 1) : Nat) : Int)) := fun h => (Int.ofNat_sub h).symm
theorem om39 : ∀ {a : Nat} {b : Nat} , ((b : Nat) = 5) → (((min (a - 1) b) : Nat) ≤ 20) := by intro a b e; subst e; exact Nat.le_trans (Nat.min_le_right _ _) (by decide)
theorem om40 : ∀ {a : Nat} {b : Nat} , ((1 : Nat) ≤ a) → (((min (a - 1) b) : Nat) < a) := by intro a b h; exact Nat.lt_of_le_of_lt (Nat.min_le_left _ _) (Nat.sub_lt h (by decide))
theorem om41 : ∀ {a : Int} , (((1 : Int) = a) ∨ ((37 : Int) = a)) → (((a : Int) = 1) ∨ ((a : Int) = 37)) := fun h => h.imp Eq.symm Eq.symm
theorem om42 : ∀ {a : Int} , (((a : Int) = 1) ∨ (((a : Int) = 37) ∨ (((a : Int) = 0) ∨ (((2 : Int) ≤ a) ∧ ((a : Int) ≤ 36))))) → (¬ ((1 : Int) = a) ∧ ¬ ((37 : Int) = a)) → (((a : Int) = 0) ∨ (((2 : Int) ≤ a) ∧ ((a : Int) ≤ 36))) := fun h n => h.elim (fun e => absurd e.symm n.1) fun h => h.elim (fun e => absurd e.symm n.2) id
theorem om43 : ∀ {a : Nat} , ((a : Nat) < 6) → ((((a : Nat) : Int) : Int) < (2 ^ 62)) := by decide
theorem om44 : ∀ {a : Nat} {b : Nat} , ((b : Nat) < 6) → ((a : Nat) < b) → ((a : Nat) ≤ 6) := by intros; lia
theorem om45 : ∀ {a : Nat} , ((a : Nat) < 9) → ((((a : Nat) : Int) : Int) < (2 ^ 62)) := by decide
theorem om46 : ∀ {a : Nat} , ((a : Nat) < 9) → (((Int.toNat (((a : Nat) : Int) - 0)) : Nat) ≤ 16777216) := by decide
theorem om47 : ∀ {a : Nat} {b : Nat} , ((b : Nat) < 9) → ((a : Nat) = (Int.toNat (((b : Nat) : Int) - 0))) → ((a : Nat) ≤ 10000) := by intro a b h e; rw [e]; exact Nat.le_trans (Nat.le_of_lt h) (by decide)
theorem om48 : ∀ {a : Nat} , ((a : Nat) < 9) → (((3 + (Int.toNat (((a : Nat) : Int) - 0))) : Nat) ≤ 40) := by decide
theorem om49 : ∀ {a : Nat} , ((a : Nat) < 6) → ((a : Nat) ≤ 6) := fun h => Nat.le_of_lt h
theorem om50 : ∀ {a : Nat} {b : Nat} , ((b : Nat) < 6) → ((a : Nat) = b) → ((a : Nat) ≤ 6) := by intro a b h e; rw [e]; exact Nat.le_trans (Nat.le_of_lt h) (by decide)
theorem om51 : ∀ {a : Nat} {b : Nat} , ((a : Nat) < 199) → ((b : Nat) < 199) → ((((-1000) : Int) ≤ (((((a : Nat) : Int) * 10790000) + ((b : Nat) : Int)) - 99)) ∧ (((((((a : Nat) : Int) * 10790000) + ((b : Nat) : Int)) - 99) : Int) ≤ 2147483647)) := by intros; lia
theorem om52 : ∀ {a : Nat} , ((a : Nat) < 35) → (((2 : Int) ≤ (2 + ((a : Nat) : Int))) ∧ (((2 + ((a : Nat) : Int)) : Int) ≤ 36)) := by decide
theorem om53 : ∀ {a : Nat} {b : Nat} , ¬ ((b : Nat) < a) → ((a : Nat) ≤ b) := fun h => Nat.not_lt.mp h
theorem om54 : ∀ {a : Nat} {b : Nat} {c : Nat} , ((a : Nat) < c) → ((c : Nat) = b) → ((a : Nat) < b) := fun h e => e ▸ h
theorem om55 : ∀ {a : Nat} , ¬ ((((a : Nat) : Int) : Int) < 0) := by intros; simp; done
theorem om56 : ∀ {a : Nat} {b : Nat} , ((a : Nat) < b) → ((((a : Nat) : Int) : Int) < ((b : Nat) : Int)) := fun h => Int.ofNat_lt.mpr h
theorem om57 : ∀ {a : Nat} {b : Nat} , (((-((a : Nat) : Int)) : Int) ≤ ((b : Nat) : Int)) := by intros; simp; done
theorem om58 : ∀ {a : Nat} {b : Nat} {c : Nat} {d : Nat} , ((b : Nat) ≤ 200) → (((c + d) : Nat) = b) → ((a : Nat) = c) → ((a : Nat) ≤ 200) := by intros; lia
theorem om59 : ∀ {a : Nat} {b : Nat} {c : Nat} , ((c : Nat) = b) → (((a + 2) : Nat) < c) → (((a + 2) : Nat) < b) := fun e h => e ▸ h
theorem om60 : ∀ {a : Nat} , ((((a : Nat) : Int) : Int) = ((a : Nat) : Int)) := by intros; rfl
theorem om61 : ∀ {a : Nat} , (((((a : Nat) : Int) + 1) : Int) = (((a + 1) : Nat) : Int)) := by intros; rfl
theorem om62 : ∀ {a : Nat} , (((((a : Nat) : Int) + 2) : Int) = (((a + 2) : Nat) : Int)) := by intros; rfl
theorem om63 : ∀ {a : Nat} {b : Nat} {c : Nat} {d : Nat} {e : Nat} , ((e : Nat) ≤ 200) → (((a + (((b + 1) - c) + d)) : Nat) = e) → (((a + (((b + 1) - c) + d)) : Nat) ≤ 200) := fun h e => e ▸ h
theorem om64 : ∀ {a : Nat} , ((a : Nat) < 128) → ((((a : Nat) : Int) : Int) < (2 ^ 62)) := by decide
theorem om65 : ∀ {a : Nat} , (((-(2 ^ 62)) : Int) ≤ (((a : Nat) : Int) + 1)) := by intros; lia
theorem om66 : ∀ {a : Nat} , ((a : Nat) < 128) → (((((a : Nat) : Int) + 1) : Int) < (2 ^ 62)) := by decide
theorem om67 : ∀ {a : Nat} {b : Nat} , (((((Int.toNat ((((a : Nat) : Int) + 1) - ((b : Nat) : Int))) : Nat) : Int) : Int) = ((((a + 1) - b) : Nat) : Int)) := by intro a b; exact congrArg Nat.cast (Int.toNat_sub (a+1) b)
theorem om68 : ∀ {a : Nat} {b : Nat} {c : Nat} {d : Nat} {e : Nat} {f : Nat} , (((b + (((c + 1) - d) + e)) : Nat) ≤ 200) → ((f : Nat) < ((c + 1) - d)) → ((a : Nat) = (b + f)) → ((a : Nat) ≤ 200) := by intros; lia
theorem om69 : ∀ {a : Nat} {b : Nat} , (((((a : Nat) : Int) + ((b : Nat) : Int)) : Int) = (((a + b) : Nat) : Int)) := by intros; rfl
theorem om70 : ∀ {a : Nat} {b : Nat} {c : Nat} , ((b : Nat) = c) → (((a + 2) : Nat) < c) → (((a + 3) : Nat) ≤ b) := fun e h => e ▸ h
theorem om71 : ∀ {a : Nat} {b : Nat} {c : Nat} , ((a : Nat) = c) → (((b + 2) : Nat) < c) → (((a - (b + 3)) : Nat) < (a - b)) := by intro a b c e h; subst e; exact Nat.sub_lt_sub_left (Nat.lt_of_le_of_lt (Nat.le_add_right b 2) h) (Nat.lt_add_of_pos_right (by decide))
theorem om72 : ∀ {a : Nat} , ((a : Nat) ≤ 20) → ((a : Nat) ≤ 1000) := by decide
theorem om73 : ∀ {a : Nat} {b : Nat} {c : Nat} , ((b : Nat) = c) → (((a + 2) : Nat) < c) → (((a + 1) : Nat) < b) := by intros; lia
theorem om74 : ∀ {a : Nat} {b : Nat} {c : Nat} , ((b : Nat) = c) → (((a + 2) : Nat) < c) → (((a + 2) : Nat) < b) := fun e h => e ▸ h
theorem om75 : ∀ {a : Nat} {b : Nat} {c : Nat} , ((b : Nat) = c) → (((a + 2) : Nat) < c) → (((a + 1) : Nat) ≤ b) := fun e h => e ▸ Nat.le_of_succ_le (Nat.le_of_succ_le h)
theorem om76 : ∀ {a : Nat} {b : Nat} {c : Nat} , ((a : Nat) = c) → (((b + 2) : Nat) < c) → (((a - (b + 1)) : Nat) < (a - b)) := by intro a b c e h; subst e; exact Nat.sub_lt_sub_left (Nat.lt_of_le_of_lt (Nat.le_add_right b 2) h) (Nat.lt_succ_self _)
theorem om77 : ∀ {a : Nat} {b : Nat} , ((a : Nat) < b) → (((a + 1) : Nat) ≤ b) := fun h => h
theorem om78 : ∀ {a : Nat} {b : Nat} , ((b : Nat) < a) → (((a - (b + 1)) : Nat) < (a - b)) := by intro a b h; exact Nat.sub_lt_sub_left h (Nat.lt_succ_self _)
theorem om79 : ∀ {a : Nat} {b : Nat} {c : Nat} , ((c : Nat) = a) → ((b : Nat) ≥ c) → ((a : Nat) ≤ b) := fun e h => e ▸ h
theorem om81 : ∀ {a : Int} , ((0 : Int) ≤ a) → ((a : Int) = (((Int.toNat a) : Nat) : Int)) := fun h => (Int.toNat_of_nonneg h).symm
theorem om105 : ∀ {a : Nat} , ((a : Nat) ≤ 10000) → ((((a * 1) + (a * 0)) : Nat) ≤ 16777216) := by intros; lia
theorem om106 : ∀ {a : Nat} {b : Nat} , ((a : Nat) ≤ b) → ((b : Nat) ≤ 200) → ((a : Nat) ≤ 200) := fun h k => Nat.le_trans h k
theorem om107 : ∀ {a : Nat} {b : Nat} , ((a : Nat) ≤ b) → ((b : Nat) ≤ 200) → ((a : Nat) < 1000000) := by intros; lia
theorem om108 : ∀ {a : Nat} , ((a : Nat) ≤ 200) → ((a : Nat) < 1000000) := fun h => Nat.lt_of_le_of_lt h (by decide)
theorem om109 : ∀ {a : Nat} {b : Nat} , ((a : Nat) ≤ b) → ((b : Nat) ≤ 200) → ((((a : Nat) : Int) : Int) < (2 ^ 62)) := by intros; lia
theorem om110 : ∀ {a : Nat} {b : Nat} {c : Nat} , ((c : Nat) ≤ b) → ((a : Nat) < c) → ((a : Nat) < b) := fun h k => Nat.lt_of_lt_of_le k h
theorem om111 : ∀ {a : Nat} {b : Nat} {c : Nat} , ((b : Nat) ≤ c) → ((c : Nat) ≤ 200) → ((a : Nat) < b) → ((a : Nat) < 1000000) := fun h1 h2 h3 => Nat.lt_of_lt_of_le h3 (Nat.le_trans h1 (Nat.le_trans h2 (by decide)))
theorem om112 : ∀ {a : Nat} {b : Nat} {c : Nat} {d : Nat} , ((b : Nat) ≤ c) → ((c : Nat) ≤ 200) → ((d : Nat) < b) → ((a : Nat) ≤ d) → ((a : Nat) ≤ 16777216) := by intros; lia
theorem om113 : ∀ {a : Nat} {b : Nat} {c : Nat} , ((c : Nat) ≤ b) → ((a : Nat) ≤ (c + 1)) → ((a : Nat) ≤ (b + 1)) := by intros; lia
theorem om114 : ∀ {a : Nat} {b : Nat} , (((min a b) : Nat) ≤ a) := Nat.min_le_left _ _
theorem om115 : ∀ {a : Nat} {b : Nat} {c : Nat} {d : Nat} , ((b : Nat) ≤ 7) → ((c : Nat) = b) → ((d : Nat) < c) → ((a : Nat) ≤ d) → ((a : Nat) ≤ 16777216) := by intros; lia
theorem om116 : ∀ {a : Nat} {b : Nat} {c : Nat} , ((b : Nat) ≤ 7) → ((c : Nat) = b) → ((a : Nat) ≤ c) → ((a : Nat) ≤ 7) := by intros; lia
theorem om117 : ∀ {a : Nat} {b : Nat} {c : Nat} {d : Nat} {e : Nat} {f : Nat} , ((b : Nat) ≤ 7) → ((c : Nat) = b) → ((d : Nat) < c) → (((e : Nat) ≤ d) ∧ ((f : Nat) = d)) → ((a : Nat) = f) → ((a : Nat) ≤ 7) := by intro a b c d e f h1 h2 h3 h4 h5; rw [h5, h4.2]; exact Nat.le_trans (Nat.le_of_lt (h2 ▸ h3)) h1
theorem om118 : ∀ {a : Nat} {b : Nat} {c : Nat} , ((c : Nat) = b) → ((a : Nat) < c) → ((a : Nat) < b) := fun e h => e ▸ h
theorem om119 : ∀ {a : Nat} {b : Nat} {c : Nat} {d : Nat} , ((b : Nat) ≤ 7) → ((c : Nat) = b) → ((d : Nat) < c) → ((a : Nat) ≤ (7 + d)) → ((a : Nat) ≤ 16777216) := by intro a b c d h1 h2 h3 h4; exact Nat.le_trans h4 (Nat.le_trans (Nat.add_le_add_left (Nat.le_trans (Nat.le_of_lt (h2 ▸ h3)) h1) 7) (by decide))
theorem om120 : ∀ {a : Nat} {b : Nat} {c : Nat} {d : Nat} {e : Nat} , ((a : Nat) ≤ 7) → ((c : Nat) = a) → ((d : Nat) < c) → (((b : Nat) ≤ d) ∧ ((e : Nat) = d)) → (((a + b) : Nat) ≤ 16) := by intro a b c d e h1 h2 h3 h4; exact Nat.le_trans (Nat.add_le_add h1 (Nat.le_trans h4.1 (Nat.le_trans (Nat.le_of_lt (h2 ▸ h3)) h1))) (by decide)
theorem om121 : ∀ {a : Nat} {b : Nat} , ((a : Nat) < (b + 1)) → ((a : Nat) ≥ b) → ((a : Nat) = b) := fun h k => Nat.le_antisymm (Nat.le_of_lt_succ h) k
theorem om122 : ∀ {a : Nat} {b : Nat} {c : Nat} , ((c : Nat) ≤ (7 + b)) → ((a : Nat) ≤ (c + 1)) → ((a : Nat) ≤ (7 + (b + 1))) := by intros; lia
theorem om123 : ∀ {a : Nat} {b : Nat} , ((a : Nat) ≤ (7 + b)) → ((a : Nat) ≤ (7 + (b + 1))) := by intros; lia
theorem om124 : ∀ {a : Nat} {b : Nat} , ((a : Nat) ≤ b) → ((a : Nat) ≤ (b + 1)) := by intros; lia
theorem om125 : ∀ {a : Nat} , ((a : Nat) ≤ 0) → ((a : Nat) = 0) := by decide
theorem om126 : ∀ {a : Nat} {b : Nat} , ((a : Nat) < (b + 1)) → ((a : Nat) ≤ b) := by intros; lia
theorem om127 : ∀ {a : Nat} {b : Nat} , ((a : Nat) ≤ (b + 1)) → ((a : Nat) ≥ (b + 1)) → ((a : Nat) = (b + 1)) := by intros; lia
theorem om128 : ∀ {a : Nat} , ((0 : Int) ≤ ((a : Nat) : Int)) := by intros; exact Int.natCast_nonneg _
theorem om129 : ∀ {a : Nat} , ((a : Nat) < 1000000) → ((((a : Nat) : Int) : Int) < (2 ^ 63)) := by intro a h; exact Int.lt_of_lt_of_le (Int.ofNat_lt.mpr h) (by decide)
theorem om130 : ∀ {a : Int} {b : Nat} , ((0 : Int) ≤ a) → ((a : Int) < ((b : Nat) : Int)) → (((Int.toNat a) : Nat) < b) := fun h k => (Int.toNat_lt h).mpr k
theorem om131 : ∀ {a : Int} {b : Nat} , ((a : Int) < ((b : Nat) : Int)) → ((b : Nat) < 1000000) → (((Int.toNat a) : Nat) < 1000000) := fun h k => Nat.lt_of_le_of_lt (Int.toNat_le.mpr (Int.le_of_lt h)) k
theorem om132 : ∀ {a : Nat} {b : Nat} {c : Nat} , ((a : Nat) < c) → ((b : Nat) = c) → ((((a : Nat) : Int) : Int) < ((b : Nat) : Int)) := by intros; simp_all; done
theorem om133 : ∀ {a : Nat} {b : Nat} {c : Nat} , ((a : Nat) < c) → ((b : Nat) = c) → ((a : Nat) < b) := fun h e => e ▸ h
theorem om134 : ∀ {a : Nat} , ((a : Nat) < 128) → ((a : Nat) ≠ 931) := by decide
theorem om135 : ∀ {a : Nat} , (((65 : Nat) ≤ a) ∧ ((a : Nat) ≤ 90)) → ((((a + 32) : Nat) = 120) ↔ (((a : Nat) = 120) ∨ ((a : Nat) = 88))) := by intro a h; exact ⟨fun e => .inr (Nat.add_right_cancel (show a + 32 = 88 + 32 from e)), fun k => k.elim (fun e => absurd (e ▸ h.2) (by decide)) fun e => by rw [e]⟩
theorem om136 : ∀ {a : Nat} , ¬ (((65 : Nat) ≤ a) ∧ ((a : Nat) ≤ 90)) → (((a : Nat) = 120) ↔ (((a : Nat) = 120) ∨ ((a : Nat) = 88))) := fun h => ⟨Or.inl, fun k => k.elim id fun e => absurd (by rw [e]; decide) h⟩
theorem om137 : ∀ {a : Nat} , (((65 : Nat) ≤ a) ∧ ((a : Nat) ≤ 90)) → ((((a + 32) : Nat) = 48) ↔ ((a : Nat) = 48)) := by intro a h; exact ⟨fun e => absurd (Nat.add_right_cancel (show a + 32 = 16 + 32 from e) ▸ h.1) (by decide), fun e => absurd (e ▸ h.1) (by decide)⟩
theorem om138 : ∀ {a : Nat} , (((a : Nat) = 48) ↔ ((a : Nat) = 48)) := Iff.rfl
theorem om139 : ∀ {a : Nat} {b : Nat} , ((a : Nat) ≤ b) → ((((a : Nat) : Int) : Int) ≤ ((b : Nat) : Int)) := fun h => Int.ofNat_le.mpr h
theorem om140 : ∀ {a : Nat} {b : Nat} , ¬ ((b : Nat) ≤ a) → ((a : Nat) < b) := fun h => Nat.not_le.mp h
theorem om141 : ∀ {a : Nat} {b : Nat} , ¬ ((a : Nat) ≤ b) → (((Int.toNat (max 0 (min ((a : Nat) : Int) ((b : Nat) : Int)))) : Nat) = b) := by intro a b h; rw [Int.min_eq_right (Int.ofNat_le.mpr (Nat.le_of_not_le h)), Int.max_eq_right (Int.natCast_nonneg b)]; rfl
theorem om142 : ∀ {a : Nat} {b : Nat} , ¬ ((b : Nat) ≤ a) → ¬ ((0 : Int) < (max 0 (min ((b : Nat) : Int) ((a : Nat) : Int)))) → (((Int.toNat 0) : Nat) = a) := by intro a b h k; rw [Int.min_eq_right (Int.ofNat_le.mpr (Nat.le_of_not_le h)), Int.max_eq_right (Int.natCast_nonneg a)] at k; exact (Nat.eq_zero_of_not_pos fun p => k (Int.ofNat_lt.mpr p)).symm
theorem om143 : ∀ {a : Nat} {b : Nat} {c : Nat} , ¬ ((b : Nat) ≤ c) → ((a : Nat) = c) → ((a : Nat) ≤ b) := by intros; lia
theorem om144 : ∀ {a : Nat} {b : Nat} {c : Nat} , ((a : Nat) = c) → (((a - b) : Nat) ≤ (Int.toNat (((c : Nat) : Int) - ((b : Nat) : Int)))) := by intro a b c e; subst e; exact Nat.le_of_eq (Int.toNat_sub _ _).symm
theorem om145 : ∀ {a : Nat} {b : Nat} , ¬ ((b : Nat) ≤ a) → ((((a : Nat) : Int) : Int) ≤ ((b : Nat) : Int)) := by intros; lia
theorem om146 : ∀ {a : Nat} {b : Nat} {c : Prop} , (((b : Nat) < a) ∧ c) → (((a - b) : Nat) = (((a - b) - 1) + 1)) := by intro a b c h; exact (Nat.sub_add_cancel (Nat.sub_pos_of_lt h.1)).symm
theorem om147 : ∀ {a : Nat} {b : Nat} {c : Nat} , (((a - b) : Nat) ≤ (c + 1)) → (((a - (b + 1)) : Nat) ≤ c) := by intro a b c h; rw [Nat.sub_add_eq]; exact Nat.sub_le_of_le_add h
theorem om148 : ∀ {a : Nat} {b : Nat} {c : Nat} , (((a - b) : Nat) = (c + 1)) → (((a - (b + 1)) : Nat) ≤ c) := by intro a b c h; rw [Nat.sub_add_eq, h]; exact Nat.le_refl _
theorem om149 : ∀ {a : Nat} {b : Nat} , ((b : Nat) < a) → (((a - b) : Nat) = (((a - b) - 1) + 1)) := by intro a b h; exact (Nat.sub_add_cancel (Nat.sub_pos_of_lt h)).symm
theorem om150 : ∀ {a : Nat} {b : Nat} {c : Nat} {d : Nat} {e : Nat} {f : Nat} , (((d : Nat) = e) ∧ (((f : Nat) ≤ (b + 1)) ∧ ((b : Nat) ≤ f))) → ((a : Nat) ≤ (f + c)) → ((a : Nat) ≤ (b + (c + 1))) := by intro a b c d e f h k; have := Nat.add_le_add_right h.2.1 c; rw [Nat.add_right_comm] at this; exact Nat.le_trans k this
theorem om151 : ∀ {a : Nat} {b : Nat} {c : Nat} {d : Nat} , ((b : Nat) ≤ 100) → ((c : Nat) ≤ 100) → ((a : Nat) ≤ (c + (min d b))) → ((a : Nat) ≤ 200) := fun h1 h2 k => Nat.le_trans k (Nat.add_le_add h2 (Nat.le_trans (Nat.min_le_right _ _) h1))
theorem om152 : ∀ {a : Nat} , ((a : Nat) ≤ 100) → ((a : Nat) < 1000000) := by decide
theorem om153 : ∀ {a : Nat} {b : Nat} , ((b : Nat) ≤ 100) → ((a : Nat) < b) → ((a : Nat) < 1000000) := fun h k => Nat.le_trans (Nat.le_trans k h) (by decide)
theorem om154 : ∀ {a : Nat} {b : Nat} , ¬ ((b : Nat) < a) → ((((a : Nat) : Int) : Int) ≤ ((b : Nat) : Int)) := by intros; simp_all; done
theorem om160 : ∀ {a : Nat} {b : Nat} {c : Nat} , ((a : Nat) < (min c b)) → ((a : Nat) < b) := fun h => Nat.lt_of_lt_of_le h (Nat.min_le_right _ _)
theorem om161 : ∀ {a : Nat} {b : Nat} {c : Nat} , ((a : Nat) < (min b c)) → ((a : Nat) < b) := by intros; grind
theorem om162 : ∀ {a : Nat} , ((a : Nat) ≤ 100) → ((((a : Nat) : Int) : Int) < (2 ^ 62)) := by decide
theorem om163 : ∀ {a : Nat} {b : Nat} , ((a : Nat) < b) → ((a : Nat) ≤ b) := fun h => Nat.le_of_lt h
theorem om164 : ∀ {a : Nat} {b : Nat} , ((b : Nat) ≤ 100) → ((a : Nat) ≤ b) → ((a : Nat) ≤ 100) := fun h k => Nat.le_trans k h
theorem om165 : ∀ {a : Nat} {b : Nat} {c : Nat} , ((b : Nat) ≤ 100) → ((a : Nat) ≤ c) → ((c : Nat) ≤ b) → ((a : Nat) ≤ 100) := by intros; lia
theorem om166 : ∀ {a : Nat} , ((0 : Nat) < a) → ((0 : Int) < ((a : Nat) : Int)) := fun h => Int.ofNat_lt.mpr h
theorem om167 : ∀ {a : Nat} , ((a : Nat) < 1000) → ((((a : Nat) : Int) : Int) < 1000) := fun h => Int.ofNat_lt.mpr h
theorem om168 : ∀ {a : Nat} , ((a : Nat) ≤ 90) → (((a - 1) : Nat) ≤ 90) := by decide
theorem om169 : ∀ {a : Nat} {b : Nat} , ((a : Nat) < b) → ((b : Nat) < 1000000) → ((a : Nat) < 1000000) := fun h k => Nat.lt_trans h k
theorem om170 : ∀ {a : Nat} {b : Nat} {c : Nat} {d : Nat} {e : Nat} , ((b : Nat) ≤ c) → ((d : Nat) = e) → (((c + e) : Nat) ≤ 40) → ((a : Nat) = (b + d)) → ((a : Nat) ≤ 40) := by intro a b c d e h1 h2 h3 h4; rw [h4, h2]; exact Nat.le_trans (Nat.add_le_add_right h1 _) h3
theorem om181 : ∀ {a : Nat} {b : Nat} {c : Nat} {d : Nat} {e : Nat} {f : Nat} {g : Prop} , ((b : Nat) = (min 40 c)) → ((d : Nat) < e) → ((f : Nat) < 10) → (g ∧ ((a : Nat) ≤ ((10 * d) + f))) → ((e : Nat) = b) → ((a : Nat) ≤ 500) := fun h1 h2 h3 h4 h5 => Nat.le_trans h4.2 (Nat.le_trans (Nat.add_le_add (Nat.mul_le_mul_left 10 (Nat.le_of_lt (Nat.lt_of_lt_of_le h2 (h5 ▸ h1 ▸ Nat.min_le_left 40 _)))) (Nat.le_of_lt h3)) (by decide))
theorem om182 : ∀ {a : Nat} {b : Nat} {c : Nat} {d : Prop} , ((c : Nat) < 10) → (d ∧ ((a : Nat) ≤ ((10 * b) + c))) → (((a + 1) : Nat) ≤ (10 * (b + 1))) := fun h1 h2 => Nat.lt_of_le_of_lt h2.2 (Nat.add_lt_add_left h1 _)
theorem om183 : ∀ {a : Nat} {b : Nat} {c : Nat} {d : Prop} , (d ∧ ((a : Nat) ≤ ((10 * b) + c))) → (((a + 1) : Nat) ≤ ((10 * b) + (c + 1))) := fun h => Nat.succ_le_succ h.2
theorem om184 : ∀ {a : Nat} {b : Nat} , ((a : Nat) ≤ ((10 * b) + 10)) → ((a : Nat) ≤ (10 * (b + 1))) := by intros; omega
theorem om185 : ∀ {a : Nat} , (((min 40 a) : Nat) ≤ 40) := Nat.min_le_left _ _
theorem om186 : ∀ {a : Nat} {b : Prop} {c : Nat} , (b ∧ ((a : Nat) ≤ (10 * c))) → ((c : Nat) ≤ 40) → ((a : Nat) ≤ 400) := by intros; lia
theorem om187 : ∀ {a : Nat} , (((min 90 a) : Nat) ≤ 90) := Nat.min_le_left _ _
theorem om194 : ∀ {a : Int} {b : Nat} {c : Nat} , ((a : Int) < (0 + (((Int.toNat (((c : Nat) : Int) - 0)) : Nat) : Int))) → ((b : Nat) = c) → ((a : Int) < ((b : Nat) : Int)) := by intros; simp_all; done
theorem om195 : ∀ {a : Nat} {b : Nat} , ((a : Nat) = b) → ((b : Nat) ≤ 100) → ((a : Nat) < 1000000) := by intros; lia
theorem om196 : ∀ {a : Nat} {b : Nat} {c : Nat} , (((a + (c + 1)) : Nat) = b) → ((a : Nat) < b) := by intros; lia
theorem om197 : ∀ {a : Nat} {b : Nat} {c : Nat} , (((a + (b + 1)) : Nat) = c) → ((((a + 1) + b) : Nat) = c) := by intros; grind
theorem om198 : ∀ {a : Nat} {b : Nat} , (((a + 1400) : Nat) < b) → ((((a + 3) + 1000) : Nat) < b) := by intro a b h; exact Nat.lt_of_le_of_lt (Nat.add_le_add_left (by decide : 1003 ≤ 1400) a) h
theorem om199 : ∀ {a : Nat} {b : Nat} , ((a : Nat) < b) → ((b : Nat) ≤ 200) → ((a : Nat) ≤ 200) := fun h k => Nat.le_trans (Nat.le_of_lt (Nat.lt_of_lt_of_le h k)) (by decide)
theorem om200 : ∀ {a : Nat} {b : Nat} , ((a : Nat) < b) → ((b : Nat) ≤ 200) → ((a : Nat) < 1000000) := fun h k => Nat.le_trans (Nat.le_trans h k) (by decide)
theorem om201 : ∀ {a : Nat} {b : Nat} , ((b : Nat) ≤ 50) → (((min a b) : Nat) ≤ 50) := fun h => Nat.le_trans (Nat.min_le_right _ _) h
theorem om202 : ∀ {a : Nat} {b : Nat} , ((b : Nat) ≤ 3) → ((((a : Nat) : Int) : Int) < ((b : Nat) : Int)) → ((a : Nat) < 1000000) := by intros; lia
theorem om203 : ∀ {a : Int} , (((a : Int) = 0) ∨ (((2 : Int) ≤ a) ∧ ((a : Int) ≤ 36))) → (((0 : Int) ≤ a) ∧ ((a : Int) ≤ 36)) := fun h => h.elim (fun e => by rw [e]; decide) fun h => ⟨Int.le_trans (by decide) h.1, h.2⟩
theorem om204 : ∀ {a : Nat} {b : Nat} {c : Nat} , (((c + 20) : Nat) < b) → ((a : Nat) ≤ (c + 2)) → (((a + 10) : Nat) < b) := by intro a b c h k; exact Nat.lt_of_le_of_lt (Nat.le_trans (Nat.add_le_add_right k 10) (Nat.add_le_add_left (by decide : 12 ≤ 20) c)) h
theorem om205 : ∀ {a : Nat} {b : Nat} {c : Nat} , (((c + 1000) : Nat) < b) → ((a : Nat) ≤ (c + 40)) → (((a + 800) : Nat) < b) := by intro a b c h k; exact Nat.lt_of_le_of_lt (Nat.le_trans (Nat.add_le_add_right k 800) (Nat.add_le_add_left (by decide : 840 ≤ 1000) c)) h
theorem om206 : ∀ {a : Nat} {b : Nat} {c : Nat} {d : Nat} {e : Nat} , (((a + e) : Nat) < d) → (((b + c) : Nat) ≤ e) → ((((a + b) + c) : Nat) < d) := by intro a b c d e h k; rw [Nat.add_assoc]; exact Nat.lt_of_le_of_lt (Nat.add_le_add_left k a) h
theorem om207 : ∀ {a : Int} , ((0 : Int) ≤ a) → ¬ ((a : Int) < 0) := by intros; simp_all; done
theorem om208 : ∀ {a : Nat} {b : Nat} , ((b : Nat) ≤ 90) → ((a : Nat) = b) → ((a : Nat) ≤ 16777216) := by intro a b h e; rw [e]; exact Nat.le_trans h (by decide)
theorem om209 : ∀ {a : Int} , (((a : Int) = 1) ∨ ((a : Int) = 37)) → ((0 : Int) ≤ a) := by intros; lia
theorem om210 : ∀ {a : Nat} , ((((-1) + (((a + (0 + 1)) : Nat) : Int)) : Int) = ((a : Nat) : Int)) := by intros; lia
theorem om211 : ∀ {a : Nat} , ((((a : Nat) : Int) : Int) < (((a : Nat) : Int) + 1)) := by intros; lia
theorem om212 : ∀ {a : Nat} {b : Nat} , (((max 0 (min ((a : Nat) : Int) ((b : Nat) : Int))) : Int) = (((min a b) : Nat) : Int)) := by intros; lia
theorem om213 : ∀ {a : Nat} {b : Nat} {c : Nat} {d : Nat} , ((a : Nat) ≤ c) → ((b : Nat) ≤ d) → (((a + b) : Nat) ≤ (c + d)) := fun h k => Nat.add_le_add h k
theorem om214 : ∀ {a : Nat} , (((a + 1) : Nat) ≤ 7) → ((a : Nat) ≤ 7) := fun h => Nat.le_of_lt h
theorem om215 : ∀ {a : Nat} {b : Nat} {c : Nat} , ((a : Nat) ≤ 7) → (((c + 1) : Nat) ≤ 7) → ((b : Nat) ≤ c) → (((a + b) : Nat) ≤ 16) := by intros; lia
theorem om216 : ∀ {a : Nat} {b : Nat} {c : Nat} {d : Nat} , ((b : Nat) ≤ 7) → (((c + 1) : Nat) ≤ 7) → ((d : Nat) ≤ c) → ((a : Nat) ≤ ((b + d) + 1)) → ((a : Nat) < 24) := by intro a b c d h1 h2 h3 k; exact Nat.lt_of_le_of_lt k (Nat.lt_of_le_of_lt (Nat.add_le_add_right (Nat.add_le_add h1 (Nat.le_trans h3 (Nat.le_of_succ_le h2))) 1) (by decide))
theorem om217 : ∀ {a : Nat} , ¬ ((((63 : Nat) : Int) : Int) < ((a : Nat) : Int)) → ((a : Nat) ≤ 63) := fun h => Int.ofNat_le.mp (Int.not_lt.mp h)
theorem om218 : ∀ {a : Nat} , ((a : Nat) < 8) → ((((a : Nat) : Int) : Int) < (2 ^ 62)) := by decide
theorem om219 : ∀ {a : Nat} , ((a : Nat) < 8) → (((Int.toNat (((a : Nat) : Int) - 0)) : Nat) ≤ 16777216) := by decide
theorem om220 : ∀ {a : Nat} {b : Nat} , ((b : Nat) < 8) → ((a : Nat) = (Int.toNat (((b : Nat) : Int) - 0))) → ((a : Nat) ≤ 7) := by intros; lia
theorem om221 : ∀ {a : Nat} {b : Nat} , ((a : Nat) = b) → ((b : Nat) ≤ 7) → ((a : Nat) < 1000000) := by intros; lia
theorem om222 : ∀ {a : Nat} {b : Nat} , ((a : Nat) = b) → ((b : Nat) ≤ 7) → ((a : Nat) ≤ 16777216) := by intro a b e h; rw [e]; exact Nat.le_trans h (by decide)
theorem om223 : ∀ {a : Nat} {b : Nat} , ((a : Nat) = b) → ((b : Nat) ≤ 7) → ((((a : Nat) : Int) : Int) < (2 ^ 62)) := by intro a b e h; rw [e]; exact Int.lt_of_le_of_lt (Int.ofNat_le.mpr h) (by decide)
theorem om224 : ∀ {a : Nat} {b : Nat} {c : Nat} , ((b : Nat) = c) → ((a : Nat) < c) → ((a : Nat) < b) := fun e h => e ▸ h
theorem om225 : ∀ {a : Nat} {b : Nat} {c : Nat} {d : Nat} {e : Nat} , ((b : Nat) ≤ 7) → ((c : Nat) < b) → (((d : Nat) ≤ c) ∧ ((e : Nat) = c)) → ((a : Nat) = e) → ((a : Nat) ≤ 7) := by intros; lia
theorem om226 : ∀ {a : Nat} {b : Nat} {c : Nat} {d : Nat} {e : Nat} , ((b : Nat) ≤ 7) → ((c : Nat) < b) → (((d : Nat) ≤ c) ∧ ((e : Nat) = c)) → ((a : Nat) = (b + d)) → ((a : Nat) ≤ 14) := by intro a b c d e h1 h2 h3 h4; rw [h4]; exact Nat.le_trans (Nat.add_le_add h1 (Nat.le_trans h3.1 (Nat.le_of_lt (Nat.lt_of_lt_of_le h2 h1)))) (by decide)
theorem om227 : ∀ {a : Nat} {b : Nat} , ((a : Nat) = b) → ((b : Nat) ≤ 7) → ((a : Nat) ≤ 1000) := by intro a b e h; rw [e]; exact Nat.le_trans h (by decide)
theorem om228 : ∀ {a : Nat} {b : Nat} , ((b : Nat) ≤ 7) → ((a : Nat) < b) → ((a : Nat) < 1000000) := fun h k => Nat.le_trans (Nat.le_trans k h) (by decide)
theorem om229 : ∀ {a : Nat} {b : Nat} {c : Nat} {d : Nat} , ((a : Nat) ≤ 7) → ((c : Nat) < a) → (((b : Nat) ≤ c) ∧ ((d : Nat) = c)) → (((a + b) : Nat) ≤ 16) := by intro a b c d h h2 h3; exact Nat.le_trans (Nat.add_le_add h (Nat.le_trans h3.1 (Nat.le_trans (Nat.le_of_lt h2) h))) (by decide)
theorem om230 : ∀ {a : Nat} {b : Nat} , ((b : Nat) ≤ 7) → ((a : Nat) = b) → ((a : Nat) ≤ 7) := fun h e => e ▸ h
theorem om231 : ∀ {a : Nat} , ((a : Nat) ≤ 7) → ((a : Nat) < 1000000) := by decide
theorem om232 : ∀ {a : Nat} , ((a : Nat) ≤ 7) → ((((a : Nat) : Int) : Int) < (2 ^ 62)) := by decide
theorem om233 : ∀ {a : Nat} , ((a : Nat) ≤ 7) → (((Int.toNat (((a : Nat) : Int) - 0)) : Nat) ≤ 16777216) := fun h => Nat.le_trans h (by decide)
theorem om234 : ∀ {a : Nat} {b : Nat} , ((a : Nat) < (Int.toNat (((b : Nat) : Int) - 0))) → ((a : Nat) < b) := fun h => h
theorem om235 : ∀ {a : Nat} {b : Nat} , ((a : Nat) < b) → ((b : Nat) ≤ 7) → ((a : Nat) < 1000000) := fun h k => Nat.le_trans (Nat.le_trans h k) (by decide)
theorem om236 : ∀ {a : Nat} , (((48 : Nat) ≤ a) ∧ ((a : Nat) ≤ 57)) → ((0 : Int) ≤ (((a : Nat) : Int) - 48)) := by intros; lia
theorem om237 : ∀ {a : Nat} , (((97 : Nat) ≤ a) ∧ ((a : Nat) ≤ 122)) → ((0 : Int) ≤ ((((a : Nat) : Int) - 97) + 10)) := by intros; lia
theorem om238 : ∀ {a : Nat} , (((65 : Nat) ≤ a) ∧ ((a : Nat) ≤ 90)) → ((0 : Int) ≤ ((((a : Nat) : Int) - 65) + 10)) := by intros; lia
theorem om239 : ((0 : Int) ≤ 99) := by intros; exact Int.natCast_nonneg _
theorem om240 : ∀ {a : Int} {b : Int} , ((a : Int) ≤ 36) → ((b : Int) = 99) → ((a : Int) ≤ b) := by intros; lia
theorem om241 : ∀ {a : Int} {b : Int} , ((0 : Int) ≤ b) → ((b : Int) < 0) → ((a : Int) ≤ b) := by intros; omega
theorem om242 : ∀ {a : Int} {b : Int} , ¬ (((-1) : Int) < 0) → ((a : Int) = b) := by intros; simp_all; done
theorem om243 : ∀ {a : Nat} {b : Nat} , ((b : Nat) ≤ 40) → ((a : Nat) ≤ b) → ((a : Nat) ≤ 5592405) := fun h k => Nat.le_trans (Nat.le_trans k h) (by decide)
theorem om244 : ∀ {a : Int} {b : Int} , ¬ ((b : Int) ≤ a) → ((a : Int) < b) := fun h => Int.not_le.mp h
theorem om245 : ∀ {a : Int} {b : Int} {c : Prop} , (((a : Int) = b) ∧ c) → ((2147483647 : Int) < a) → (c ∧ ((b : Int) ≤ 2147483647)) → False := by intros; lia
theorem om246 : ∀ {a : Int} {b : Int} {c : Prop} , (((b : Int) = a) ∧ c) → ¬ ((2147483647 : Int) < b) → ((a : Int) ≤ 2147483647) := by intros; simp_all; done
theorem om247 : ∀ {a : Int} , (((2 : Int) ≤ a) ∧ ((a : Int) ≤ 36)) → ((0 : Int) < a) := by intros; lia
theorem om248 : ∀ {a : Nat} {b : Int} , (((2 : Int) ≤ b) ∧ ((b : Int) ≤ 36)) → ((((a : Nat) : Int) : Int) < b) → ((a : Nat) < 36) := fun h k => Int.ofNat_lt.mp (Int.lt_of_lt_of_le k h.2)
theorem om249 : ∀ {a : Int} , ((a : Int) < 0) → ((a : Int) ≤ (-1)) := by intros; lia
theorem om250 : ∀ {a : Int} , (((2 : Int) ≤ a) ∧ ((a : Int) ≤ 36)) → ((0 : Int) ≤ a) := by intros; lia
theorem om251 : ∀ {a : Int} {b : Nat} {c : Int} {d : Int} , ((0 : Int) ≤ a) → ((((b : Nat) : Int) : Int) < c) → ((((c * d) + ((b : Nat) : Int)) : Int) = a) → (((c * d) : Int) ≤ (c * (-1))) → False := by intros; lia
theorem om252 : ∀ {a : Int} {b : Int} , (((2 * a) : Int) ≤ (b * a)) → (((a + a) : Int) ≤ (b * a)) := by intros; lia
theorem om253 : ∀ {a : Nat} , ((a : Nat) < 32) → ((a : Nat) ≤ 31) := by decide
theorem om254 : ∀ {a : Int} , ((0 : Int) < a) → ((1 : Int) ≤ a) := fun h => h
theorem om255 : ∀ {a : Nat} , (((2 ^ 32) : Int) ≤ (2 ^ a)) → ((0 : Int) ≤ (2 ^ a)) := by intros; exact Int.natCast_nonneg _
theorem om256 : ∀ {a : Int} {b : Int} {c : Nat} , (((a : Int) ≤ 2147483647) ∧ (((-2147483647) : Int) ≤ a)) → (((b * (2 ^ c)) : Int) ≤ (((Int.natAbs a) : Nat) : Int)) → (((2 ^ 32) : Int) ≤ (2 ^ c)) → (((1 * (2 ^ c)) : Int) ≤ (b * (2 ^ c))) → False := by intros; omega
theorem om257 : ∀ {a : Int} {b : Int} {c : Int} {d : Nat} , ((((c * a) + ((d : Nat) : Int)) : Int) = b) → ((0 : Int) ≤ a) → (((a + a) : Int) ≤ (c * a)) → ((a : Int) ≤ b) := by intro a b c d h1 h2 h3; exact Int.le_trans (Int.le_trans (Int.le_add_of_nonneg_right h2) h3) (h1 ▸ Int.le_add_of_nonneg_right (Int.natCast_nonneg d))
theorem om258 : ∀ {a : Int} {b : Int} {c : Int} {d : Nat} , ((((c * a) + ((d : Nat) : Int)) : Int) = b) → (((a + a) : Int) ≤ (c * a)) → ((0 : Int) < b) → ((a : Int) < b) := by intros; lia
theorem om259 : ∀ {a : Nat} , ((a : Nat) ≤ 31) → (((a + 1) : Nat) ≤ 32) := fun h => Nat.succ_le_succ h
theorem om260 : ∀ {a : Int} {b : Int} {c : Int} {d : Nat} , ((((c * a) + ((d : Nat) : Int)) : Int) = b) → (((a + a) : Int) ≤ (c * a)) → (((a * 2) : Int) ≤ b) := by intros; lia
theorem om261 : ∀ {a : Int} {b : Nat} {c : Int} {d : Int} , (((d * (2 ^ b)) : Int) ≤ (((Int.natAbs c) : Nat) : Int)) → (((a * ((2 ^ b) * 2)) : Int) ≤ (d * (2 ^ b))) → (((a * ((2 ^ b) * 2)) : Int) ≤ (((Int.natAbs c) : Nat) : Int)) := by intros; grind
theorem om262 : ∀ {a : Int} , ((a : Int) < 0) → (((-a) : Int) = (((Int.natAbs a) : Nat) : Int)) := by intros; grind
theorem om263 : ∀ {a : Int} , ¬ ((a : Int) < 0) → ((a : Int) = (((Int.natAbs a) : Nat) : Int)) := fun h => (Int.natAbs_of_nonneg (Int.not_lt.mp h)).symm
theorem om264 : ∀ {a : Int} {b : Int} , ((a : Int) = (((Int.natAbs b) : Nat) : Int)) → ((0 : Int) ≤ a) := by intros; simp_all; done
theorem om265 : ∀ {a : Int} , ((((-1000) : Int) ≤ a) ∧ ((a : Int) ≤ 2147483647)) → (((-2147483647) : Int) ≤ a) := by intros; lia
theorem om266 : ∀ {a : Int} {b : Int} {c : Nat} , ((a : Int) < b) → ((0 : Int) ≤ a) → ((((Int.toNat a) + 0) : Nat) < ((Int.toNat b) + c)) := fun h k => Nat.lt_of_lt_of_le ((Int.toNat_lt_toNat (Int.lt_of_le_of_lt k h)).mpr h) (Nat.le_add_right _ _)
theorem om267 : ∀ {a : Int} {b : Int} {c : Prop} {d : Prop} {e : Prop} , (c ∧ (((a : Int) ≤ b) ∧ (d ∧ e))) → ((((Int.toNat a) + 0) : Nat) < ((Int.toNat b) + 1)) := fun h => Nat.lt_succ_of_le (Int.toNat_le_toNat h.2.1)
theorem om268 : ∀ {a : Int} , ((0 : Int) ≤ a) → ¬ ((0 : Int) < a) → ((a : Int) = 0) := by intros; lia
theorem om269 : ∀ {a : Nat} {b : Nat} {c : Nat} , ((b : Nat) ≤ 32) → ((((c + b) : Nat) ≤ a) ∧ ((a : Nat) ≤ (c + b))) → ((c : Nat) = 1) → ((a : Nat) ≤ 40) := by intro a b c h1 h2 h3; exact Nat.le_trans h2.2 (h3 ▸ Nat.le_trans (Nat.add_le_add_left h1 1) (by decide))
theorem om270 : ∀ {a : Nat} {b : Nat} , ((b : Nat) ≤ 32) → ((a : Nat) = 0) → (((a + b) : Nat) ≤ 40) := by intros; lia
theorem om271 : ∀ {a : Int} , ¬ ((a : Int) < 0) → (((-2147483647) : Int) ≤ a) := by intros; lia
theorem om272 : (((0 : Int) ≤ 16) ∧ ((16 : Int) ≤ 36)) := by decide
theorem om273 : (((0 : Int) ≤ 8) ∧ ((8 : Int) ≤ 36)) := by decide
theorem om274 : (((0 : Int) ≤ 10) ∧ ((10 : Int) ≤ 36)) := by decide
theorem om275 : ∀ {a : Int} {b : Int} , ((a : Int) ≤ b) → ((b : Int) < a) → False := fun h k => absurd k (Int.not_lt.mpr h)
theorem om276 : ∀ {a : Nat} , (((-(2 ^ 63)) : Int) ≤ ((a : Nat) : Int)) := by intros; simp; done
theorem om277 : ∀ {a : Nat} , ((a : Nat) < 2) → ((((a : Nat) : Int) : Int) < (2 ^ 63)) := by decide
theorem om278 : ∀ {a : Nat} , ((((a + 1) + 1) : Nat) < 2) → False := by intros; lia
theorem om279 : ∀ {a : Nat} , ((a : Nat) ≤ 3) → ((a : Nat) < 1000000) := by decide
theorem om280 : ∀ {a : Nat} {b : Nat} , (((a + 2) : Nat) = b) → ((b : Nat) < a) → False := by intros; lia
theorem om281 : ∀ {a : Int} , ((2 : Int) ≤ a) → (((a : Int) = 16) ∨ ((a : Int) = 0)) → ((a : Int) = 16) := by intros; lia
theorem om282 : ∀ {a : Int} {b : Int} , ((a : Int) = 16) → ((b : Int) = 33) → ((b : Int) < a) → False := by intros; simp_all; done
theorem om283 : ∀ {a : Int} , ((2 : Int) ≤ a) → ¬ ((a : Int) = 0) := by intros; lia
theorem om284 : ∀ {a : Int} , (((a : Int) ≤ 2147483647) ∧ (((-2147483647) : Int) ≤ a)) → (((((Int.natAbs a) : Nat) : Int) : Int) ≤ 2147483647) := by intros; omega
theorem om285 : ∀ {a : Int} , ((a : Int) < 0) → (((-(((Int.natAbs a) : Nat) : Int)) : Int) = a) := fun h => by rw [Int.ofNat_natAbs_of_nonpos (Int.le_of_lt h), Int.neg_neg]
theorem om286 : ∀ {a : Int} , ¬ ((a : Int) < 0) → (((((Int.natAbs a) : Nat) : Int) : Int) = a) := fun h => Int.natAbs_of_nonneg (Int.not_lt.mp h)
theorem om287 : ∀ {a : Nat} {b : Nat} , ((b : Nat) ≤ 16) → ((a : Nat) < (b + 1)) → (((1 + (1 * a)) : Nat) < 24) := by intro a b h k; rw [Nat.one_mul]; exact Nat.lt_of_le_of_lt (Nat.add_le_add_left (Nat.le_trans (Nat.le_of_lt_succ k) h) 1) (by decide)
theorem om288 : ∀ {a : Nat} {b : Nat} {c : Nat} , (((c + 1) : Nat) < b) → ((a : Nat) < (c + 1)) → (((1 + (1 * a)) : Nat) < b) := by intro a b c h k; rw [Nat.one_mul, Nat.add_comm]; exact Nat.lt_of_le_of_lt k h
theorem om289 : ∀ {a : Nat} , (((a + 1) : Nat) ≤ a) → False := by intros; lia
theorem om290 : ∀ {a : Nat} {b : Nat} {c : Nat} , (((a : Nat) ≤ b) ∧ ((c : Nat) = b)) → ((a : Nat) ≤ (b + 1)) := by intros; lia
theorem om291 : ∀ {a : Nat} {b : Nat} , (((a + 1) : Nat) ≤ b) → ((a : Nat) < b) := fun h => h
theorem om292 : ∀ {a : Nat} {b : Nat} , (((a + 1) : Nat) ≤ b) → ((a : Nat) ≤ b) := fun h => Nat.le_of_lt h
theorem om293 : ∀ {a : Nat} , ((1 : Nat) ≤ a) → ((a : Nat) < 1) → False := fun h k => absurd k (Nat.not_lt.mpr h)

end

section
-- part Ord
/-! addresses in order: a ledger's parts are apart by their places in one falling row -/
noncomputable def Desc : List Nat → Prop
  | a :: b :: r => b < a ∧ Desc (b :: r)
  | _ => True
theorem Desc.cons {a b : Nat} {r : List Nat} (h : @LT.lt Nat _ b a) (S : Desc (b :: r)) : Desc (a :: b :: r) := ⟨h, S⟩
theorem Desc.tail {a : Nat} {r : List Nat} (S : Desc (a :: r)) : Desc r := by
  cases r with
  | nil => exact trivial
  | cons b r => exact S.2
theorem Desc.lt {r : List Nat} : ∀ {a b : Nat}, Desc (a :: r) → b ∈ r → b < a := by
  induction r with
  | nil => exact fun _ h => nomatch h
  | cons c r ih =>
    intro a b S m
    rcases List.mem_cons.mp m with rfl | m
    · exact S.1
    · exact Nat.lt_trans (ih S.2 m) S.1
noncomputable def atN : List Nat → Nat → Option Nat
  | [], _ => none
  | a :: _, 0 => some a
  | _ :: r, n + 1 => atN r n
@[irreducible] def AtI (l : List Nat) (a i : Nat) : Prop := atN l i = some a
theorem AtI.head {za1 : Nat} {zr1 : List Nat} : AtI (za1 :: zr1) za1 0 := by unfold AtI; rfl
theorem AtI.tail {za1 zi1 zb1 : Nat} {zr1 : List Nat} (zh1 : AtI zr1 za1 zi1) : AtI (zb1 :: zr1) za1 (zi1 + 1) := by unfold AtI at zh1 ⊢; exact zh1
theorem atN_mem : ∀ {as : List Nat} {a i : Nat}, atN as i = some a → a ∈ as
  | _ :: _, _, 0, h => Option.some.inj h ▸ .head _
  | _ :: _, _, _ + 1, h => .tail _ (atN_mem h)
theorem AtI.mem {as : List Nat} {a i : Nat} (h : AtI as a i) : a ∈ as := by unfold AtI at h; exact atN_mem h
theorem AtI.ne {as : List Nat} {a b i j : Nat} (S : Desc as) (h : AtI as a i) (k : AtI as b j) (n : i ≠ j) : a ≠ b := by
  unfold AtI at h k
  induction as generalizing i j with
  | nil => cases h
  | cons c r ih =>
    cases i with
    | zero => cases j with
      | zero => exact absurd rfl n
      | succ j => cases h; exact Nat.ne_of_gt (S.lt (atN_mem (i := j) k))
    | succ i => cases j with
      | zero => cases k; exact Nat.ne_of_lt (S.lt (atN_mem (i := i) h))
      | succ j => exact ih S.tail h k (fun e => n (by rw [e]))
@[irreducible] def IxA (as : List Nat) (l : List (Addr × Obj)) (is : List Nat) : Prop := is.map (atN as) = l.map fun p => some p.1
theorem IxA.nil {as : List Nat} : IxA as [] [] := by unfold IxA; rfl
theorem IxA.cons {as : List Nat} {za1 zi1 : Nat} {zo1 : Obj} {zr1 : List (Addr × Obj)} {zj1 : List Nat} (zh1 : AtI as za1 zi1) (zh2 : IxA as zr1 zj1) : IxA as ((za1, zo1) :: zr1) (zi1 :: zj1) := by
  unfold IxA at zh2 ⊢
  unfold AtI at zh1
  exact congr (congrArg List.cons zh1) zh2
theorem IxA.at {as : List Nat} {l : List (Addr × Obj)} {is : List Nat} (h : IxA as l is) : ∀ q ∈ l, ∃ i ∈ is, AtI as q.1 i := fun q hq => by
  unfold IxA at h
  have m : some q.1 ∈ is.map (atN as) := h ▸ List.mem_map_of_mem (f := fun p : Addr × Obj => some p.1) hq
  obtain ⟨i, hi, e⟩ := List.mem_map.mp m
  exact ⟨i, hi, by unfold AtI; exact e⟩
noncomputable def apart : List Nat → List Nat → Bool
  | [], _ => true
  | i :: is, js => !js.contains i && apart is js
theorem apart_ne : ∀ {is js : List Nat}, apart is js = true → ∀ i ∈ is, ∀ j ∈ js, i ≠ j
  | [], _, _, _, h, _, _ => nomatch h
  | i :: is, js, h, k, hk, j, hj => by
    rw [apart, Bool.and_eq_true, Bool.not_eq_true'] at h
    rcases List.mem_cons.mp hk with rfl | hk
    · rintro rfl
      rw [List.contains_iff_mem.mpr hj] at h
      exact absurd h.1 (by decide)
    · exact apart_ne h.2 k hk j hj
theorem off_idx {as : List Nat} {pre rest : List (Addr × Obj)} {is js : List Nat} (S : Desc as) (h1 : IxA as pre is) (h2 : IxA as rest js) (hd : apart is js = true) : Off pre rest := by
  intro p hp q hq
  obtain ⟨i, hi, a1⟩ := h1.at p hp
  obtain ⟨j, hj, a2⟩ := h2.at q hq
  exact a1.ne S a2 (apart_ne hd i hi j hj)
theorem lt_in {D : Addr} {news : List (Addr × Obj)} (l : ∀ p ∈ news, p.1 < D) {a : Addr} {o : Obj} (h : (a, o) ∈ news) : @LT.lt Nat _ a D := l _ h
theorem lt_up {a b : Nat} (h : @LT.lt Nat _ a b) : @LT.lt Nat _ a (b + 1) := Nat.lt_succ_of_lt h
theorem desc_app : ∀ {l r : List Nat} {a : Nat}, Desc (l ++ [a]) → Desc (a :: r) → Desc (l ++ a :: r)
  | [], _, _, _, k => k
  | [x], _, _, h, k => ⟨h.1, k⟩
  | x :: y :: l, _, _, h, k => ⟨h.1, desc_app (l := y :: l) h.2 k⟩

noncomputable def Chain : List Nat → Prop
  | a :: b :: r => a < b ∧ Chain (b :: r)
  | _ => True
theorem Desc.snoc : ∀ {l : List Nat} {b a : Nat}, Desc (l ++ [b]) → @LT.lt Nat _ a b → Desc (l ++ [b] ++ [a])
  | [], _, _, _, k => ⟨k, trivial⟩
  | [_], _, _, h, k => ⟨h.1, k, trivial⟩
  | _ :: y :: l, _, _, h, k => ⟨h.1, Desc.snoc (l := y :: l) h.2 k⟩
theorem desc_of : ∀ {l : List Nat}, Chain l → Desc l.reverse
  | [], _ => trivial
  | [_], _ => trivial
  | a :: b :: r, h => by
    have := desc_of (l := b :: r) h.2
    rw [List.reverse_cons] at this ⊢
    rw [List.reverse_cons]
    exact Desc.snoc this h.1

theorem lt_ne {a b : Nat} (h : @LT.lt Nat _ a b) : a ≠ b := Nat.ne_of_lt h
theorem gt_ne {a b : Nat} (h : @LT.lt Nat _ b a) : a ≠ b := Nat.ne_of_gt h
theorem room_ok {dp d k : Nat} (h : dp + d < recursionLimit) (hk : k ≤ d) : dp + k < recursionLimit := Nat.lt_of_le_of_lt (Nat.add_le_add_left hk dp) h
/-- at a statement: the texts' count forgotten, the ledger and the frame named -/
theorem hook {prog : Program} {w : World} {A : Around} {α : Type} {t : Sem α} {Q : α → Shared → Prop} {E : Value → Shared → Prop} {g h : Heap} {L : Addr} {m : Str → Option Value} {led : List (Addr × Obj)} {ge : _} {dr : _} {os : _} {k : Nat} (zF : Fr g L h m) (zN : News g L h led)
    (zH : ∀ tkH : Nat, let lH := led; let mH := m; ∀ (FH : Fr g L h mH) (NH : News g L h lH), wpAny (model prog w) A t Q E ⟨h, ge, dr, tkH, os⟩) : wpAny (model prog w) A t Q E ⟨h, ge, dr, k + 1, os⟩ := zH _ zF zN
/-- what is to come, named -/
theorem fold_Q {M : Model} {A : Around} {α : Type} {t : Sem α} {Q : α → Shared → Prop} {E : Value → Shared → Prop} {s : Shared} (H : let qH := Q; wpAny M A t qH E s) : wpAny M A t Q E s := H
/-- apart, whatever their order; the first is the newest -/
noncomputable def Dist : List Nat → Prop
  | a :: r => (∀ b ∈ r, a ≠ b) ∧ Dist r
  | [] => True
noncomputable def Fall : List Nat → Prop
  | a :: r => (∀ b ∈ r, b < a) ∧ Dist r
  | [] => True
theorem Desc.dist : ∀ {l : List Nat}, Desc l → Dist l
  | [], _ => trivial
  | _ :: _, h => ⟨fun _ m => Nat.ne_of_gt (h.lt m), h.tail.dist⟩
theorem Fall.dist {l : List Nat} (h : Fall l) : Dist l := by
  cases l with
  | nil => exact trivial
  | cons a r => exact ⟨fun _ m => Nat.ne_of_gt (h.1 _ m), h.2⟩
theorem Fall.cons {a b : Nat} {r : List Nat} (h : @LT.lt Nat _ b a) (S : Fall (b :: r)) : Fall (a :: b :: r) := ⟨fun _ m => (List.mem_cons.mp m).elim (fun e => e ▸ h) fun m => Nat.lt_trans (S.1 _ m) h, S.dist⟩
theorem dist_mid {c : Nat} {lo : List Nat} : ∀ {hi : List Nat}, Desc (hi ++ [c]) → Desc (hi ++ lo) → (∀ b ∈ lo, c ≠ b) → Dist (hi ++ c :: lo)
  | [], _, k, h => ⟨h, k.dist⟩
  | _ :: _, k1, k2, h => ⟨fun b m => Nat.ne_of_gt ((List.mem_append.mp m).elim (fun m => k2.lt (List.mem_append_left _ m)) fun m => (List.mem_cons.mp m).elim (fun e => e ▸ k1.lt (List.mem_append_right _ (.head _))) fun m => k2.lt (List.mem_append_right _ m)), dist_mid k1.tail k2.tail h⟩
/-- one more address, c, set into a falling row behind hi -/
theorem Fall.mid {a c : Nat} {hi lo : List Nat} (k1 : Desc (a :: hi ++ [c])) (k2 : Desc (a :: hi ++ lo)) (h : ∀ b ∈ lo, c ≠ b) : Fall (a :: hi ++ c :: lo) :=
  ⟨fun b m => (List.mem_append.mp m).elim (fun m => k2.lt (List.mem_append_left _ m)) fun m => (List.mem_cons.mp m).elim (fun e => e ▸ k1.lt (List.mem_append_right _ (.head _))) fun m => k2.lt (List.mem_append_right _ m), dist_mid (hi := hi) k1.tail k2.tail h⟩
theorem AtI.neD {as : List Nat} {a b i j : Nat} (S : Dist as) (h : AtI as a i) (k : AtI as b j) (n : i ≠ j) : a ≠ b := by
  unfold AtI at h k
  induction as generalizing i j with
  | nil => cases h
  | cons c r ih =>
    cases i with
    | zero => cases j with
      | zero => exact absurd rfl n
      | succ j => cases h; exact S.1 _ (atN_mem (i := j) k)
    | succ i => cases j with
      | zero => cases k; exact fun e => S.1 _ (atN_mem (i := i) h) e.symm
      | succ j => exact ih S.2 h k (fun e => n (by rw [e]))
theorem off_idF {as : List Nat} {pre rest : List (Addr × Obj)} {is js : List Nat} (S : Fall as) (h1 : IxA as pre is) (h2 : IxA as rest js) (hd : apart is js = true) : Off pre rest := by
  intro p hp q hq
  obtain ⟨i, hi, a1⟩ := h1.at p hp
  obtain ⟨j, hj, a2⟩ := h2.at q hq
  exact a1.neD S.dist a2 (apart_ne hd i hi j hj)
/-- the first k of a falling row -/
theorem Desc.head_of {r : List Nat} : ∀ {l : List Nat}, Desc (l ++ r) → Desc l
  | [], _ => trivial
  | [_], _ => trivial
  | _ :: b :: l, h => ⟨h.1, Desc.head_of (l := b :: l) h.2⟩
theorem Desc.put {a c x : Nat} {hi lo : List Nat} (S : Desc (a :: hi ++ x :: lo)) (h1 : @LT.lt Nat _ c x) (h2 : ∀ b ∈ lo, c ≠ b) : Fall (a :: hi ++ [x] ++ c :: lo) := by
  have e : a :: hi ++ x :: lo = (a :: hi ++ [x]) ++ lo := by simp
  rw [e] at S
  exact Fall.mid (hi := hi ++ [x]) (by simpa using Desc.snoc (l := a :: hi) (by simpa using S.head_of) h1) (by simpa using S) h2
/-! short proofs: a place in a ledger by its number, a frame's names at once, units -/
noncomputable def atL : List (Addr × Obj) → Nat → Option (Addr × Obj)
  | [], _ => none
  | p :: _, 0 => some p
  | _ :: r, n + 1 => atL r n
theorem mem_ix {p : Addr × Obj} : ∀ {l : List (Addr × Obj)} (i : Nat), atL l i = some p → p ∈ l
  | _ :: _, 0, h => Option.some.inj h ▸ .head _
  | _ :: _, n + 1, h => .tail _ (mem_ix n h)
theorem starts_ok {m : Str → Option Value} : ∀ {ps : List (Str × Value)}, (ps.map fun p => m p.1) = (ps.map fun p => some p.2) → ∀ p ∈ ps, m p.1 = some p.2
  | [], _ => fun _ h => nomatch h
  | q :: r, e => fun p h => by
    have e' := List.cons.inj e
    rcases List.mem_cons.mp h with rfl | h
    · exact e'.1
    · exact starts_ok e'.2 p h
theorem units_ok {un K j : Nat} (k : Nat) (h : un + K < cLine) (e : Nat.ble (k + j) K = true) : un + k + j < cLine := by
  have := Nat.le_of_ble_eq_true e
  (exact om206 (by k_asm) (by k_asm))
/-- the surroundings and the scope, named -/
theorem name_env {M : Model} {A : Around} {env : Env} {b : List Stmt} {Q : Flow → Shared → Prop} {E : Value → Shared → Prop} {s : Shared} (H : let a9 := A; let e9 := env; let x9 := E; wpAny M a9 (execs b e9) Q x9 s) : wpAny M A (execs b env) Q E s := H
/-- the same with what is to come, and the texts' count forgotten -/
theorem name_env2 {M : Model} {A : Around} {env : Env} {b : List Stmt} {Q : Flow → Shared → Prop} {E : Value → Shared → Prop} {h : Heap} {ge : _} {dr : _} {k : Nat} {os : _} (H : ∀ tk : Nat, let a9 := A; let e9 := env; let q9 := Q; let x9 := E; wpAny M a9 (execs b e9) q9 x9 ⟨h, ge, dr, tk, os⟩) : wpAny M A (execs b env) Q E ⟨h, ge, dr, k, os⟩ := H k
/-- the goal, named: a thing is taken apart without its being written out at each layer -/
theorem hideW {M : Model} {A : Around} {α : Type} {t : Sem α} {Q : α → Shared → Prop} {E : Value → Shared → Prop} {s : Shared} (H : let g9 := wpAny M A t Q E s; g9) : wpAny M A t Q E s := H
theorem memA0 {α : Type} {p : α} {r : List α} : p ∈ p :: r := .head _
theorem memA1 {α : Type} {p x0 : α} {r : List α} : p ∈ x0 :: p :: r := .tail _ memA0
theorem memA2 {α : Type} {p x0 x1 : α} {r : List α} : p ∈ x0 :: x1 :: p :: r := .tail _ memA1
theorem memA3 {α : Type} {p x0 x1 x2 : α} {r : List α} : p ∈ x0 :: x1 :: x2 :: p :: r := .tail _ memA2
theorem memA4 {α : Type} {p x0 x1 x2 x3 : α} {r : List α} : p ∈ x0 :: x1 :: x2 :: x3 :: p :: r := .tail _ memA3
/-- a new object stands above all that were: so it is none of them -/
theorem all_ne_lt {d : Nat} {r : List (Addr × Obj)} (h : ∀ p ∈ r, p.1 < d) : ∀ p ∈ r, (@Ne Nat p.1 d) := fun p hp => Nat.ne_of_lt (h p hp)
theorem all_ne_lt1 {d : Nat} {x : Addr × Obj} {r : List (Addr × Obj)} (h : ∀ p ∈ x :: r, p.1 < d) : ∀ p ∈ r, (@Ne Nat p.1 d) := fun p hp => Nat.ne_of_lt (h p (.tail _ hp))
theorem all_ne_lt2 {d : Nat} {x y : Addr × Obj} {r : List (Addr × Obj)} (h : ∀ p ∈ x :: y :: r, p.1 < d) : ∀ p ∈ r, (@Ne Nat p.1 d) := fun p hp => Nat.ne_of_lt (h p (.tail _ (.tail _ hp)))
theorem dist_new {L1 : Nat} {r : List Nat} (h : ∀ a ∈ r, a < L1) (d : Dist r) : Dist ((L1 + 1 + 1) :: (L1 + 1) :: r) :=
  ⟨fun b m => Nat.ne_of_gt ((List.mem_cons.mp m).elim (fun e => e ▸ Nat.lt_succ_self _) fun m => Nat.lt_succ_of_lt (Nat.lt_succ_of_lt (h b m))), fun b m => Nat.ne_of_gt (Nat.lt_succ_of_lt (h b m)), d⟩
theorem off_ixX {as : List Nat} {pre rest X : List (Addr × Obj)} {is js : List Nat} (S : Dist as) (h1 : IxA as pre is) (h2 : IxA as rest js) (hd : apart is js = true) (hX : ∀ q ∈ X, ∀ p ∈ as, @Ne Nat p q.1) : Off pre (rest ++ X) := by
  intro p hp q hq
  obtain ⟨i, hi, a1⟩ := h1.at p hp
  rcases List.mem_append.mp hq with hq | hq
  · obtain ⟨j, hj, a2⟩ := h2.at q hq
    exact a1.neD S a2 (apart_ne hd i hi j hj)
  · exact hX q hq p.1 a1.mem
theorem off_ixD {as : List Nat} {pre rest : List (Addr × Obj)} {is js : List Nat} (S : Dist as) (h1 : IxA as pre is) (h2 : IxA as rest js) (hd : apart is js = true) : Off pre rest := by
  intro p hp q hq
  obtain ⟨i, hi, a1⟩ := h1.at p hp
  obtain ⟨j, hj, a2⟩ := h2.at q hq
  exact a1.neD S a2 (apart_ne hd i hi j hj)
noncomputable def nodupB : List Nat → Bool
  | [] => true
  | i :: r => !r.contains i && nodupB r
theorem room0 {dp d : Nat} (h : dp + d < recursionLimit) : dp < recursionLimit := Nat.lt_of_le_of_lt (Nat.le_add_right _ _) h
theorem room2 {dp d j : Nat} (k : Nat) (h : dp + d < recursionLimit) (e : Nat.ble (k + j) d = true) : dp + k + j < recursionLimit := by
  have := Nat.le_of_ble_eq_true e
  (exact om206 (by k_asm) (by k_asm))
theorem atN_AtI {a : Nat} {as : List Nat} {i : Nat} (h : atN as i = some a) : AtI as a i := by unfold AtI; exact h
theorem ixN_mem {as : List Nat} : ∀ {js r : List Nat}, js.map (atN as) = r.map some → ∀ b ∈ r, ∃ j ∈ js, AtI as b j
  | [], _ :: _, h, _, _ => by cases h
  | j :: js, a :: r, h, b, hb => by
    have e := List.cons.inj h
    rcases List.mem_cons.mp hb with rfl | hb
    · exact ⟨j, .head _, atN_AtI e.1⟩
    · obtain ⟨k, hk, ha⟩ := ixN_mem e.2 b hb
      exact ⟨k, .tail _ hk, ha⟩
/-- some of a row of addresses, each from another place: apart -/
theorem dist_at {as : List Nat} (S : Dist as) : ∀ (is : List Nat) {l : List Nat}, is.map (atN as) = l.map some → nodupB is = true → Dist l
  | _, [], _, _ => trivial
  | [], _ :: _, h, _ => by cases h
  | i :: is, a :: r, h, hd => by
    have e := List.cons.inj h
    rw [nodupB, Bool.and_eq_true, Bool.not_eq_true'] at hd
    refine ⟨fun b hb => ?_, dist_at S is e.2 hd.2⟩
    obtain ⟨j, hj, a2⟩ := ixN_mem e.2 b hb
    refine (atN_AtI e.1).neD S a2 ?_
    rintro rfl
    rw [List.contains_iff_mem.mpr hj] at hd
    exact absurd hd.1 (by decide)
theorem dist_ixA {as : List Nat} {l : List (Addr × Obj)} {is : List Nat} (S : Dist as) (h : IxA as l is) (hd : nodupB is = true) : Dist (l.map (·.1)) := by
  unfold IxA at h
  exact dist_at S is (by rw [h, List.map_map]; rfl) hd
theorem Desc.app_low {lo : List Nat} : ∀ {hi : List Nat} {D : Nat}, Desc (hi ++ [D]) → (∀ b ∈ lo, b < D) → Dist lo → Dist (hi ++ D :: lo)
  | [], _, _, h, d => ⟨fun b m => Nat.ne_of_gt (h b m), d⟩
  | a :: hi, D, S, h, d => ⟨fun b m => Nat.ne_of_gt ((List.mem_append.mp m).elim (fun m => S.lt (List.mem_append_left _ m)) fun m => (List.mem_cons.mp m).elim (fun e => e ▸ S.lt (List.mem_append_right _ (.head _))) fun m => Nat.lt_trans (h b m) (S.lt (List.mem_append_right _ (.head _)))), Desc.app_low (hi := hi) S.tail h d⟩
theorem all_low {D : Nat} {news : List (Addr × Obj)} (l : ∀ p ∈ news, p.1 < D) : ∀ {lo : List (Addr × Obj)}, (∀ q ∈ lo, q ∈ news) → ∀ b ∈ lo.map (·.1), b < D := fun h b hb => by
  obtain ⟨q, hq, rfl⟩ := List.mem_map.mp hb
  exact l q (h q hq)
theorem dist_top {D : Nat} {r : List Nat} (h : ∀ b ∈ r, b < D) (d : Dist r) : Dist (D :: r) := ⟨fun b m => Nat.ne_of_gt (h b m), d⟩
theorem atA0 {a : Nat} {r : List Nat} : AtI (a :: r) a 0 := .head
theorem atA1 {a x0 : Nat} {r : List Nat} : AtI (x0 :: a :: r) a 1 := .tail atA0
theorem atA2 {a x0 x1 : Nat} {r : List Nat} : AtI (x0 :: x1 :: a :: r) a 2 := .tail atA1
theorem atA3 {a x0 x1 x2 : Nat} {r : List Nat} : AtI (x0 :: x1 :: x2 :: a :: r) a 3 := .tail atA2
theorem atA4 {a x0 x1 x2 x3 : Nat} {r : List Nat} : AtI (x0 :: x1 :: x2 :: x3 :: a :: r) a 4 := .tail atA3
theorem pkA0 {d : Addr} {o : Obj} {r : List (Addr × Obj)} : Pick d o ((d, o) :: r) r := .head
theorem pkA1 {d : Addr} {o : Obj} {x0 : Addr × Obj} {r : List (Addr × Obj)} : Pick d o (x0 :: (d, o) :: r) (x0 :: r) := .tail pkA0
theorem pkA2 {d : Addr} {o : Obj} {x0 x1 : Addr × Obj} {r : List (Addr × Obj)} : Pick d o (x0 :: x1 :: (d, o) :: r) (x0 :: x1 :: r) := .tail pkA1
theorem pkA3 {d : Addr} {o : Obj} {x0 x1 x2 : Addr × Obj} {r : List (Addr × Obj)} : Pick d o (x0 :: x1 :: x2 :: (d, o) :: r) (x0 :: x1 :: x2 :: r) := .tail pkA2
theorem pkA4 {d : Addr} {o : Obj} {x0 x1 x2 x3 : Addr × Obj} {r : List (Addr × Obj)} : Pick d o (x0 :: x1 :: x2 :: x3 :: (d, o) :: r) (x0 :: x1 :: x2 :: x3 :: r) := .tail pkA3
theorem memS5 {α : Type} {p x0 x1 x2 x3 x4 : α} {r : List α} (h : p ∈ r) : p ∈ x0 :: x1 :: x2 :: x3 :: x4 :: r := .tail _ (.tail _ (.tail _ (.tail _ (.tail _ h))))
theorem atS5 {a i x0 x1 x2 x3 x4 : Nat} {r : List Nat} (h : AtI r a i) : AtI (x0 :: x1 :: x2 :: x3 :: x4 :: r) a (i + 5) := .tail (.tail (.tail (.tail (.tail h))))
theorem pkS5 {d : Addr} {o : Obj} {x0 x1 x2 x3 x4 : Addr × Obj} {r r' : List (Addr × Obj)} (h : Pick d o r r') : Pick d o (x0 :: x1 :: x2 :: x3 :: x4 :: r) (x0 :: x1 :: x2 :: x3 :: x4 :: r') := .tail (.tail (.tail (.tail (.tail h))))
/-! states written out: no goal is left that `dsimp only` would have to set right (each such step leaves the whole goal once more, as the type of an `id`) -/
theorem hook2 {prog : Program} {w : World} {A : Around} {b : Stmt} {r : List Stmt} {env : Env} {Q : Flow → Shared → Prop} {E : Value → Shared → Prop} {g h : Heap} {L : Addr} {m : Str → Option Value} {led : List (Addr × Obj)} (s : Shared) {k : Nat} (zF : Fr g L h m) (zN : News g L h led)
    (zH : ∀ tkH : Nat, let lH := led; let mH := m; ∀ (FH : Fr g L h mH) (NH : News g L h lH), wpAny (model prog w) A (execs (b :: r) env) Q E ⟨h, s.gens, s.drawn, tkH, s.os⟩) : wpAny (model prog w) A (execs (b :: r) env) Q E ⟨h, s.gens, s.drawn, k + 1, s.os⟩ := zH _ zF zN
section
variable {M : Model} {A : Around} {env : Env} {E : Value → Shared → Prop} {h : Heap} {ge : _} {dr : _} {k : Nat} {os : _} {kd : Nat} {pos : Pos} {Q : Value → Shared → Prop}
theorem constI {i : Int} (H : Q (.int i k) ⟨h, ge, dr, k + 1, os⟩) : wpAny M A (eval (.Constant (.int i) kd pos) env) Q E ⟨h, ge, dr, k, os⟩ := fun _ _ _ => H
theorem constS {x : Str} (H : Q (.str x k) ⟨h, ge, dr, k + 1, os⟩) : wpAny M A (eval (.Constant (.str x) kd pos) env) Q E ⟨h, ge, dr, k, os⟩ := fun _ _ _ => H
end
/-! an argument that is a name of the frame or a written number or text: one step in place of two or three; what stays the same in a body stands first, so that the terms share it -/
noncomputable def nameOk (cs : Scope) (x : Str) : Bool := cs.names.lookup x == some .local && !(x == ("__debug__" : Str))
theorem nameOk_x {cs : Scope} {x : Str} (h : nameOk cs x = true) : cs.names.lookup x = some .local ∧ (x == ("__debug__" : Str)) = false := by
  rw [nameOk, Bool.and_eq_true, Bool.not_eq_true'] at h
  exact ⟨beq_iff_eq.mp h.1, h.2⟩
section
variable {zM : Model} {zA : Around} {zE : Value → Shared → Prop} {zenv : Env} {zcn : Str} {zcs : Scope} {zL za : Addr} {zccd : Value} {zcl : List (Str × Addr)} {zh₀ : Heap}
theorem nameV (zhe : zenv = envX zcn zcs zL za zccd zcl) (zhk : zcs.kind = .function) {zx : Str} (zhb : nameOk zcs zx = true) {zm : Str → Option Value} {zs : Shared} (zF : Fr zh₀ zL zs.heap zm) {zpos : Pos} {zv : Value} {zQ : Value → Shared → Prop} (zhv : zm zx = some zv) (zH : zQ zv zs) : wpAny zM zA (eval (.Name zx zpos) zenv) zQ zE zs := by
  subst zhe
  exact nameX_L zF zhv zH zhk (nameOk_x zhb).1 (nameOk_x zhb).2
theorem argN (zhe : zenv = envX zcn zcs zL za zccd zcl) (zhk : zcs.kind = .function) {zx : Str} (zhb : nameOk zcs zx = true) {zm : Str → Option Value} {zs : Shared} (zF : Fr zh₀ zL zs.heap zm) {zpos zps : Pos} {zv : Value} {zrest : List PySem.Expr} {zQ : List Value → Shared → Prop} (zhv : zm zx = some zv)
    (zH : wpAny zM zA (spliced (backTo zps (starEach zrest zenv))) (fun zvs s₂ => zQ (zv :: zvs) s₂) zE zs) : wpAny zM zA (spliced (backTo zps (starEach (.Name zx zpos :: zrest) zenv))) zQ zE zs := args_cons (nameV zhe zhk zhb zF zhv zH)
variable {zge : _} {zdr : _} {zos : _} {zh : Heap} {zk : Nat} {zkd : Nat} {zpos zps : Pos} {zrest : List PySem.Expr} {zQ : List Value → Shared → Prop}
theorem argI {zi : Int} (zH : wpAny zM zA (spliced (backTo zps (starEach zrest zenv))) (fun zvs s₂ => zQ (.int zi zk :: zvs) s₂) zE ⟨zh, zge, zdr, zk + 1, zos⟩) : wpAny zM zA (spliced (backTo zps (starEach (.Constant (.int zi) zkd zpos :: zrest) zenv))) zQ zE ⟨zh, zge, zdr, zk, zos⟩ := args_cons (constI zH)
theorem argS {zx : Str} (zH : wpAny zM zA (spliced (backTo zps (starEach zrest zenv))) (fun zvs s₂ => zQ (.str zx zk :: zvs) s₂) zE ⟨zh, zge, zdr, zk + 1, zos⟩) : wpAny zM zA (spliced (backTo zps (starEach (.Constant (.str zx) zkd zpos :: zrest) zenv))) zQ zE ⟨zh, zge, zdr, zk, zos⟩ := args_cons (constS zH)
end
/-! a call of a name of the module or of a builtin: one step in place of two -/
noncomputable def nameOkG (cs : Scope) (x : Str) : Bool := cs.names.lookup x == some .globalImplicit && (!(x == ("__debug__" : Str)) && !(x == ("__name__" : Str)))
theorem nameOkG_x {cs : Scope} {x : Str} (h : nameOkG cs x = true) : cs.names.lookup x = some .globalImplicit ∧ (x == ("__debug__" : Str)) = false ∧ x ≠ ("__name__" : Str) := by
  rw [nameOkG, Bool.and_eq_true, Bool.and_eq_true, Bool.not_eq_true', Bool.not_eq_true'] at h
  exact ⟨beq_iff_eq.mp h.1, h.2.1, beq_eq_false_iff_ne.mp h.2.2⟩
section
variable {zM : Model} {zA : Around} {zE : Value → Shared → Prop} {zenv : Env} {zcn : Str} {zcs : Scope} {zL za : Addr} {zccd : Value} {zcl : List (Str × Addr)} {zK : Frag} {zp : Program} {zloose : List Str} {zmg zmb : Str → Option Value} {zh₀ : Heap}
theorem callK (zhe : zenv = envX zcn zcs zL za zccd zcl) (zhk : zcs.kind = .function) (zX : zK.In zh₀) (zT : TopRead zp zloose zmg zmb zh₀) {zx : Str} (zhb : nameOkG zcs zx = true) {zv : Value} (ze : nsIn zK mainGlobals zx = some (some zv)) {zm : Str → Option Value} {zs : Shared} (zF : Fr zh₀ zL zs.heap zm) {zfpos zpos : Pos} {zargs : List PySem.Expr} {zQ : Value → Shared → Prop}
    (zH : wpAny zM zA (callWith zpos zv [] (backTo zpos (starEach zargs zenv)) []) zQ zE zs) : wpAny zM zA (eval (.Call (.Name zx zfpos) zargs [] zpos) zenv) zQ zE zs := by
  subst zhe
  exact Call_ (nameX_K zF zX zT ze zH zhk (nameOkG_x zhb).1 (nameOkG_x zhb).2.1)
theorem callB (zhe : zenv = envX zcn zcs zL za zccd zcl) (zhk : zcs.kind = .function) (zX : zK.In zh₀) (zT : TopRead zp zloose zmg zmb zh₀) {zx : Str} (zhb : nameOkG zcs zx = true) {zv : Value} (ze : nsIn zK mainGlobals zx = some none) (zhv : bootBuiltins zx = some zv) {zm : Str → Option Value} {zs : Shared} (zF : Fr zh₀ zL zs.heap zm) {zfpos zpos : Pos} {zargs : List PySem.Expr} {zQ : Value → Shared → Prop}
    (zH : wpAny zM zA (callWith zpos zv [] (backTo zpos (starEach zargs zenv)) []) zQ zE zs) : wpAny zM zA (eval (.Call (.Name zx zfpos) zargs [] zpos) zenv) zQ zE zs := by
  subst zhe
  exact Call_ (nameX_B zF zX zT ze zhv (nameOkG_x zhb).2.2 zH zhk (nameOkG_x zhb).1 (nameOkG_x zhb).2.1)
end
/-! an attribute of an object that a name of the frame holds: one step in place of three -/
theorem attrV {zprog : Program} {zw : World} {zA : Around} {zE : Value → Shared → Prop} {zenv : Env} {zcn : Str} {zcs : Scope} {zL za : Addr} {zccd : Value} {zcl : List (Str × Addr)} {zK : Frag} {zh₀ : Heap} (zhe : zenv = envX zcn zcs zL za zccd zcl) (zhk : zcs.kind = .function) (zX : zK.In zh₀) {zx : Str} (zhb : nameOk zcs zx = true) {zm : Str → Option Value} {zh : Heap} (zF : Fr zh₀ zL zh zm) {zy zC : Addr} {zox : Obj} (zhv : zm zx = some (.ref zy)) {zes : List DictEntry} {zn : Nat} (zI : PySem.W.InstAt zh zy zox zC (some (dictOf zes zn))) {zname : Str} (zhg : plainGet zK zC zname = true) (zhh : hasDictIn zK zC = true)
    {zattr : Option Value} (zha : findIn zK (.ref zC) zname = some zattr) (zhn : noGet zK zattr = true) {zv : Value} (zhl : getL zname zes = some (some zv)) (zhd : handedIn zv = true) {zxp zpos : Pos} {zge : _} {zdr : _} {zos : _} {zk : Nat} {zQ : Value → Shared → Prop} (zH : zQ zv ⟨zh, zge, zdr, zk + 1, zos⟩) : wpAny (model zprog zw) zA (eval (.Attribute (.Name zx zxp) zname zpos) zenv) zQ zE ⟨zh, zge, zdr, zk, zos⟩ :=
  Attribute_Name_ (nameV zhe zhk zhb (zs := ⟨zh, zge, zdr, zk, zos⟩) zF zhv (get_own (s := ⟨zh, zge, zdr, zk, zos⟩) zF zX zI zhg zhh zha zhn zhl zhd zH))
/-! a new list or tuple: the state laid out, its size by evaluation -/
section
variable {zM : Model} {zA : Around} {zE : Value → Shared → Prop} {zQ : Value → Shared → Prop} {zge : _} {zdr : _} {zos : _} {zh₀ zh : Heap} {zk : Nat} {zL : Addr} {zm : Str → Option Value} {znews : List (Addr × Obj)} {zvs : List Value}
theorem newListE (zF : Fr zh₀ zL zh zm) (zN : News zh₀ zL zh znews) (zhz : zvs.length ≤ sizeLine) (zH : ∀ l' h' (F' : Fr zh₀ zL h' zm) (N' : News zh₀ zL h' ((l', listOf zvs.toArray 0) :: znews)) (l1 : ∀ zp ∈ znews, zp.1 < l'), zQ (.ref l') ⟨h', zge, zdr, zk, zos⟩) : wpAny zM zA (newList zvs) zQ zE ⟨zh, zge, zdr, zk, zos⟩ :=
  newList_K (s := ⟨zh, zge, zdr, zk, zos⟩) zF zN zH zhz
theorem newTupE (zF : Fr zh₀ zL zh zm) (zN : News zh₀ zL zh znews) (zhz : zvs.length ≤ sizeLine) (zH : ∀ D' h' (F' : Fr zh₀ zL h' zm) (N' : News zh₀ zL h' ((D', ({ cls := .type "tuple", data := .seq zvs.toArray } : Obj)) :: znews)) (l1 : ∀ zp ∈ znews, zp.1 < D'), zQ (.ref D') ⟨h', zge, zdr, zk, zos⟩) : wpAny zM zA (newTuple zvs) zQ zE ⟨zh, zge, zdr, zk, zos⟩ :=
  kup_newTuple (s := ⟨zh, zge, zdr, zk, zos⟩) zF zN zH zhz
end
/-! a turn's end: the names as they stood -/
theorem relI {z k : Str} {i9 : Decidable (z = k)} {a b t : Option Value} (h : z ≠ k) (e : b = t) : (@ite _ (z = k) i9 a b) = t := by rw [if_neg h]; exact e
theorem relS {z : Str} {st : List Str} {i9 : Decidable (st.contains z = true)} {a b : Option Value} (h : st.contains z = false) : (@ite _ (st.contains z = true) i9 a b) = b := by rw [if_neg]; rw [h]; decide
theorem relN {z k : Str} {st : List Str} (h : st.contains z = false) (e : st.contains k = true) : z ≠ k := fun x => by rw [x, e] at h; cases h
theorem relP {z k : Str} {ps : List (Str × Value)} (h : ∀ p ∈ ps, z ≠ p.1) (e : (ps.map (·.1)).contains k = true) : z ≠ k := by
  obtain ⟨p, hp, rfl⟩ := List.mem_map.mp (List.contains_iff_mem.mp e)
  exact h p hp
theorem relK {z : Str} {m : Str → Option Value} {t : Option Value} : ∀ {ps : List (Str × Value)}, (∀ p ∈ ps, z ≠ p.1) → m z = t → kstB m ps z = t
  | [], _, e => e
  | p :: r, h, e => by
    show (if z = p.1 then some p.2 else kstB m r z) = t
    rw [if_neg (h p (.head _))]
    exact relK (fun q hq => h q (.tail _ hq)) e
theorem relT {z : Str} {m : Str → Option Value} {b : Option Value} {ps : List (Str × Value)} (h : ∀ p ∈ ps, z ≠ p.1) (e : b = m z) : b = kstB m ps z := e.trans (relK h rfl).symm
theorem relM {z : Str} {qs ps : List (Str × Value)} (h : ∀ p ∈ ps, z ≠ p.1) (e : qs.map (·.1) = ps.map (·.1)) : ∀ p ∈ qs, z ≠ p.1 := fun p hp => relP h (by rw [← e]; exact List.contains_iff_mem.mpr (List.mem_map_of_mem hp))
/-! one ledger within another -/
theorem subN {α : Type} {all : List α} : ∀ q ∈ ([] : List α), q ∈ all := fun _ h => nomatch h
theorem subC {α : Type} {p : α} {r all : List α} (h : p ∈ all) (k : ∀ q ∈ r, q ∈ all) : ∀ q ∈ p :: r, q ∈ all := fun _ m => (List.mem_cons.mp m).elim (fun e => e ▸ h) (k _)
theorem subI {α : Type} {l : List α} : ∀ q ∈ l, q ∈ l := fun _ h => h
/-! storing a name -/
theorem storeE {M : Model} {A : Around} {E : Value → Shared → Prop} {h h₀ : Heap} {ge : _} {dr : _} {k : Nat} {os : _} {L a : Addr} {m : Str → Option Value} {cn : Str} {cs : Scope} {ccd : Value} {cl : List (Str × Addr)} {x : Str} {v : Value} {Q : Unit → Shared → Prop} {news : List (Addr × Obj)} (zF : Fr h₀ L h m) (zN : News h₀ L h news)
    (zhk : cs.kind = .function) (zhx : (envX cn cs L a ccd cl).kindOf x = some .local) (zH : ∀ h' (F' : Fr h₀ L h' (fun y => if y = x then some v else m y)) (N' : News h₀ L h' news), Q () ⟨h', ge, dr, k + 1, os⟩) : wpAny M A (storeName (envX cn cs L a ccd cl) x v) Q E ⟨h, ge, dr, k, os⟩ :=
  storeX_L (s := ⟨h, ge, dr, k, os⟩) zF zN zH zhk zhx
/-! a joint with what it keeps laid out: nothing to unpack -/
section
variable {M : Model} {A : Around} {env : Env} {E : Value → Shared → Prop} {Q : Flow → Shared → Prop} {l : List Stmt} {s0 : Shared}
theorem cut1 {α : Type} (n : Nat) (g : Heap) (L : Addr) (s : Shared) (ps : α → List (Str × Value)) (Led : α → List (Addr × Obj)) (P : α → Prop)
    (h1 : wpAny M A (execs (l.take n) env) (fun f s' => match f with | .next => At g L s (fun c : α => ps c) (fun c => Led c) (fun c => P c) s' | f => Q f s') E s0)
    (h2 : ∀ a0 (m : Str → Option Value) (h : Heap) (tk : Nat), Fr g L h (kstB m (ps a0)) → News g L h (Led a0) → P a0 → wpAny M A (execs (l.drop n) env) Q E ⟨h, s.gens, s.drawn, tk, s.os⟩) : wpAny M A (execs l env) Q E s0 :=
  cut_at n _ h1 fun s' hs => by
    obtain ⟨c, m, h, tk, rfl, F, N, hp⟩ := hs
    exact h2 c m h tk F N hp
theorem cut2 {α : Type} {β : Type} (n : Nat) (g : Heap) (L : Addr) (s : Shared) (ps : α → β → List (Str × Value)) (Led : α → β → List (Addr × Obj)) (P : α → β → Prop)
    (h1 : wpAny M A (execs (l.take n) env) (fun f s' => match f with | .next => At g L s (fun c : α × β => ps c.1 c.2) (fun c => Led c.1 c.2) (fun c => P c.1 c.2) s' | f => Q f s') E s0)
    (h2 : ∀ a0 a1 (m : Str → Option Value) (h : Heap) (tk : Nat), Fr g L h (kstB m (ps a0 a1)) → News g L h (Led a0 a1) → P a0 a1 → wpAny M A (execs (l.drop n) env) Q E ⟨h, s.gens, s.drawn, tk, s.os⟩) : wpAny M A (execs l env) Q E s0 :=
  cut1 n g L s _ _ _ h1 fun c => h2 c.1 c.2
theorem cut3 {α : Type} {β : Type} {γ : Type} (n : Nat) (g : Heap) (L : Addr) (s : Shared) (ps : α → β → γ → List (Str × Value)) (Led : α → β → γ → List (Addr × Obj)) (P : α → β → γ → Prop)
    (h1 : wpAny M A (execs (l.take n) env) (fun f s' => match f with | .next => At g L s (fun c : α × β × γ => ps c.1 c.2.1 c.2.2) (fun c => Led c.1 c.2.1 c.2.2) (fun c => P c.1 c.2.1 c.2.2) s' | f => Q f s') E s0)
    (h2 : ∀ a0 a1 a2 (m : Str → Option Value) (h : Heap) (tk : Nat), Fr g L h (kstB m (ps a0 a1 a2)) → News g L h (Led a0 a1 a2) → P a0 a1 a2 → wpAny M A (execs (l.drop n) env) Q E ⟨h, s.gens, s.drawn, tk, s.os⟩) : wpAny M A (execs l env) Q E s0 :=
  cut1 n g L s _ _ _ h1 fun c => h2 c.1 c.2.1 c.2.2
theorem cut4 {α : Type} {β : Type} {γ : Type} {δ : Type} (n : Nat) (g : Heap) (L : Addr) (s : Shared) (ps : α → β → γ → δ → List (Str × Value)) (Led : α → β → γ → δ → List (Addr × Obj)) (P : α → β → γ → δ → Prop)
    (h1 : wpAny M A (execs (l.take n) env) (fun f s' => match f with | .next => At g L s (fun c : α × β × γ × δ => ps c.1 c.2.1 c.2.2.1 c.2.2.2) (fun c => Led c.1 c.2.1 c.2.2.1 c.2.2.2) (fun c => P c.1 c.2.1 c.2.2.1 c.2.2.2) s' | f => Q f s') E s0)
    (h2 : ∀ a0 a1 a2 a3 (m : Str → Option Value) (h : Heap) (tk : Nat), Fr g L h (kstB m (ps a0 a1 a2 a3)) → News g L h (Led a0 a1 a2 a3) → P a0 a1 a2 a3 → wpAny M A (execs (l.drop n) env) Q E ⟨h, s.gens, s.drawn, tk, s.os⟩) : wpAny M A (execs l env) Q E s0 :=
  cut1 n g L s _ _ _ h1 fun c => h2 c.1 c.2.1 c.2.2.1 c.2.2.2
theorem cut5 {α : Type} {β : Type} {γ : Type} {δ : Type} {ε : Type} (n : Nat) (g : Heap) (L : Addr) (s : Shared) (ps : α → β → γ → δ → ε → List (Str × Value)) (Led : α → β → γ → δ → ε → List (Addr × Obj)) (P : α → β → γ → δ → ε → Prop)
    (h1 : wpAny M A (execs (l.take n) env) (fun f s' => match f with | .next => At g L s (fun c : α × β × γ × δ × ε => ps c.1 c.2.1 c.2.2.1 c.2.2.2.1 c.2.2.2.2) (fun c => Led c.1 c.2.1 c.2.2.1 c.2.2.2.1 c.2.2.2.2) (fun c => P c.1 c.2.1 c.2.2.1 c.2.2.2.1 c.2.2.2.2) s' | f => Q f s') E s0)
    (h2 : ∀ a0 a1 a2 a3 a4 (m : Str → Option Value) (h : Heap) (tk : Nat), Fr g L h (kstB m (ps a0 a1 a2 a3 a4)) → News g L h (Led a0 a1 a2 a3 a4) → P a0 a1 a2 a3 a4 → wpAny M A (execs (l.drop n) env) Q E ⟨h, s.gens, s.drawn, tk, s.os⟩) : wpAny M A (execs l env) Q E s0 :=
  cut1 n g L s _ _ _ h1 fun c => h2 c.1 c.2.1 c.2.2.1 c.2.2.2.1 c.2.2.2.2
theorem cut6 {α : Type} {β : Type} {γ : Type} {δ : Type} {ε : Type} {ζ : Type} (n : Nat) (g : Heap) (L : Addr) (s : Shared) (ps : α → β → γ → δ → ε → ζ → List (Str × Value)) (Led : α → β → γ → δ → ε → ζ → List (Addr × Obj)) (P : α → β → γ → δ → ε → ζ → Prop)
    (h1 : wpAny M A (execs (l.take n) env) (fun f s' => match f with | .next => At g L s (fun c : α × β × γ × δ × ε × ζ => ps c.1 c.2.1 c.2.2.1 c.2.2.2.1 c.2.2.2.2.1 c.2.2.2.2.2) (fun c => Led c.1 c.2.1 c.2.2.1 c.2.2.2.1 c.2.2.2.2.1 c.2.2.2.2.2) (fun c => P c.1 c.2.1 c.2.2.1 c.2.2.2.1 c.2.2.2.2.1 c.2.2.2.2.2) s' | f => Q f s') E s0)
    (h2 : ∀ a0 a1 a2 a3 a4 a5 (m : Str → Option Value) (h : Heap) (tk : Nat), Fr g L h (kstB m (ps a0 a1 a2 a3 a4 a5)) → News g L h (Led a0 a1 a2 a3 a4 a5) → P a0 a1 a2 a3 a4 a5 → wpAny M A (execs (l.drop n) env) Q E ⟨h, s.gens, s.drawn, tk, s.os⟩) : wpAny M A (execs l env) Q E s0 :=
  cut1 n g L s _ _ _ h1 fun c => h2 c.1 c.2.1 c.2.2.1 c.2.2.2.1 c.2.2.2.2.1 c.2.2.2.2.2
end

end
set_option hygiene false
local macro_rules | `(tactic| k_mem) => `(tactic| k_extra "k_mem")
local macro_rules | `(tactic| k_room) => `(tactic| k_extra "ktr_room")
local macro_rules | `(tactic| ktr_room) => `(tactic| k_extra "ktr_room")
local macro_rules | `(tactic| tb_start) => `(tactic| k_extra "tb_start")
local macro_rules | `(tactic| k_all) => `(tactic| k_extra "k_all")
local macro_rules | `(tactic| ktr_units) => `(tactic| k_extra "ktr_units")
local macro_rules | `(tactic| ke_room) => `(tactic| k_extra "ktr_units")
local macro_rules | `(tactic| k_lt $h) => `(tactic| skip)
local macro_rules | `(tactic| k_ne) => `(tactic| k_extra "k_ne")
local macro_rules | `(tactic| walk_at $k:str) => `(tactic| k_extra $(Lean.Syntax.mkStrLit ("@" ++ k.getString)))
local macro_rules | `(tactic| k_steps) => `(tactic| k_extra "k_steps")
local macro_rules | `(tactic| kqd_sub) => `(tactic| k_extra "kqd_sub")
set_option hygiene true
theorem words_on : True := by
  k_with "k_mem" => first | exact memA0 | exact memA1 | exact memA2 | exact memA3 | exact memA4 | (refine memS5 ?_; k_mem)
  k_with "tb_start" => first | (with_unfolding_all exact starts_ok rfl) | (repeat (first | exact List.forall_mem_nil _ | (refine List.forall_mem_cons.mpr ⟨?_, ?_⟩; (focus (with_unfolding_all rfl)))))
  k_with "k_all" => first | (refine List.forall_mem_append.mpr ⟨?_, ?_⟩ <;> k_all) | exact all_ne_lt (by with_reducible assumption) | exact all_ne_lt1 (by with_reducible assumption) | exact all_ne_lt2 (by with_reducible assumption) | with_reducible assumption
  k_with "ktr_room" => first | exact room0 hd | exact room2 1 hd rfl | exact room2 2 hd rfl | exact room2 3 hd rfl | exact room2 4 hd rfl | exact room2 0 hd rfl | exact Nat.le_of_ble_eq_true rfl
  k_with "ktr_units" => first | exact units_ok 3 hu rfl | exact units_ok 4 hu rfl | exact units_ok 0 hu rfl | exact units_ok 6 hu rfl | exact units_ok 7 hu rfl | exact units_ok 9 hu rfl | exact units_ok 10 hu rfl | exact units_ok 13 hu rfl | exact units_ok 12 hu rfl | exact of_decide_eq_true rfl | (have hcL9 := cLine_is; (try simp only [units_in1, units_deeper, Around.mark_units, units_caller]); (try dsimp only [ktrTop]); omega)
  k_with "l0" => first | with_reducible assumption | exact lt_in (by with_reducible assumption) (by k_mem) | exact Nat.lt_succ_self _ | ((with_reducible refine lt_up ?_); k_extra "l0")
  k_with "lt" => first | k_extra "l0" | exact And.left (by with_reducible assumption) | exact And.left (And.right (by with_reducible assumption)) | exact And.left (And.right (And.right (by with_reducible assumption))) | omega
  k_with "ne" => first | with_reducible assumption | exact Ne.symm (by with_reducible assumption) | exact lt_ne (lt_in (by with_reducible assumption) (by k_mem)) | exact gt_ne (lt_in (by with_reducible assumption) (by k_mem)) | exact lt_ne (by k_extra "lt") | exact gt_ne (by k_extra "lt") | omega
  k_with "k_ne" => refine neN ?_; (try dsimp only); k_extra "ne"
  k_with "pkA" => repeat' (first | exact PickAll.nil | exact pkA0 | exact pkA1 | exact pkA2 | exact pkA3 | exact pkA4 | apply PickAll.cons | apply pkS5)
  k_with "ixa" => repeat' (first | exact IxA.nil | with_reducible (first | exact atA0 | exact atA1 | exact atA2 | exact atA3 | exact atA4) | apply IxA.cons | apply atS5)
  k_with "off" => first | exact off_idx hS (by k_extra "ixa") (by k_extra "ixa") (by exact rfl) | exact off_ixD hS (by k_extra "ixa") (by k_extra "ixa") (by exact rfl) | (refine off_of_all ?_; (try simp only [OffAll, NeAll, and_true]); (repeat' refine And.intro ?_ ?_); all_goals first | exact True.intro | k_extra "ne")
  k_with "@callWith ref" => k_here; k_dflt (refine' callWith_K ?zF9 ?zN9 ?_; (case zF9 => k_asm); (case zN9 => k_is); k_whole)
  k_with "@execs cons" => first | (refine' hook ?zF9 ?zN9 ?_; (case zF9 => k_asm); (case zN9 => k_asm); intro _ _ _ _ _) | k_extra "execs cons" | with_reducible refine wpAny_execs_cons ?_
  k_with "@eval Constant int" => (try dsimp only); refine constI ?_
  k_with "@eval Constant str" => (try dsimp only); refine constS ?_
  k_with "fold" => (fail_if_success (fail_if_success k_fold)); (refine fold_Q ?_); intro _
  k_with "@eval Call" => k_extra "fold"
  k_with "@eval List" => k_extra "fold"
  k_with "@eval Tuple" => k_extra "fold"
  k_with "@isTrue Compare" => k_extra "fold"
  k_with "@exec Assign" => k_extra "fold"
  k_with "@exec If" => k_extra "fold"
  k_with "@exec Return" => k_extra "fold"
  k_with "@CompSrc" => k_extra "CompSrc"
  k_with "@compareOp NotEq ref ref" => k_extra "compareOp NotEq ref ref"
  k_with "@compareOp Eq ref ref" => k_extra "compareOp Eq ref ref"
  k_with "@subscriptTail" => k_extra "subscriptTail"
  k_with "@call ref" => k_extra "call ref"
  k_with "@exec Assign cons ListComp" => k_extra "exec Assign cons ListComp"
  k_with "@CompSrcT" => k_extra "CompSrcT"
  k_with "arg" => k_here; k_dflt (first | ((with_reducible first | refine' argN ?za9 ?zb9 ?zc9 ?zd9 ?ze9 ?_ | refine' nameV ?za9 ?zb9 ?zc9 ?zd9 ?ze9 ?_); (case za9 => exact rfl); (case zb9 => exact rfl); (case zc9 => exact rfl); (case zd9 => k_asm); (case ze9 => exact rfl); k_whole) | ((with_reducible first | refine argI ?_ | refine argS ?_); try dsimp only))
  k_with "@spliced" => k_extra "arg"
  k_with "@eval Name" => k_extra "arg"
  k_with "@eval Call Name" => (fail_if_success k_fold); k_here; k_dflt (first | ((with_reducible refine' callK ?za9 ?zb9 ?zc9 ?zd9 ?ze9 ?zf9 ?zg9 ?_); (case za9 => exact rfl); (case zb9 => exact rfl); (case zc9 => k_asm); (case zd9 => k_asm); (case ze9 => exact rfl); (case zf9 => k_is); (case zg9 => k_asm); k_whole) | ((with_reducible refine' callB ?za9 ?zb9 ?zc9 ?zd9 ?ze9 ?zf9 ?zg9 ?zh9 ?_); (case za9 => exact rfl); (case zb9 => exact rfl); (case zc9 => k_asm); (case zd9 => k_asm); (case ze9 => exact rfl); (case zf9 => k_is); (case zg9 => boot_fast); (case zh9 => k_asm); k_whole))
  k_with "@eval Attribute Name" => k_here; k_dflt ((with_reducible refine' attrV ?za9 ?zb9 ?zc9 ?zd9 ?ze9 ?zf9 ?zg9 ?zh9 ?zi9 ?zj9 ?zk9 ?zl9 ?zm9 ?_); (case za9 => exact rfl); (case zb9 => exact rfl); (case zc9 => k_asm); (case zd9 => exact rfl); (case ze9 => k_asm); (case zf9 => exact rfl); (case zg9 => k_inst); (case zh9 => k_is); (case zi9 => k_is); (case zj9 => k_is); (case zk9 => k_is); (case zl9 => k_get); (case zm9 => k_handed); k_whole)
  k_with "newO" => k_here; k_dflt ((with_reducible first | refine' newListE ?za9 ?zb9 ?zc9 ?_ | refine' newTupE ?za9 ?zb9 ?zc9 ?_); (case za9 => k_asm); (case zb9 => k_asm); (case zc9 => exact Nat.le_of_ble_eq_true rfl); k_whole; intro _ _ _ _ _; (try k_sweep))
  k_with "@newList" => k_extra "newO"
  k_with "@newTuple" => k_extra "newO"
  k_with "@storeName" => k_here; k_dflt (refine' storeE ?zF9 ?zN9 ?za9 ?zb9 ?_; (case zF9 => k_asm); (case zN9 => k_asm); (case za9 => rfl); (case zb9 => rfl); k_whole; intro _ _ _; (try k_sweep))
  k_with "k_steps" => repeat' (first | ((fail_if_success (fail_if_success k_unfold)); (refine (?_ : wpAny _ _ _ _ _ _)); (first | ((with_reducible refine (?_ : wpAny _ _ (execs _ _) _ _ _)); (first | (with_reducible refine wpAny_execs_nil ?_) | ((refine (?_ : wpAny _ _ (execs (_ :: _) _) _ _ _)); (with_reducible refine' hook2 s ?zF9 ?zN9 ?_); (case zF9 => k_asm); (case zN9 => k_asm); intro _ _ _ _ _) | (refine wpAny_execs_nil ?_))) | (try dsimp only))) | (k_unfold; (try dsimp only)) | (k_end; wrow_close) | walk1 | (dsimp only; walk1) | (leave1; try dsimp only))
  k_with "kqd_sub" => first | exact subI | exact subN | (refine subC ?_ ?_; (first | k_mem | kst_mem); kqd_sub)
  k_with "@KswEnd" => refine Halt.out ?_
  k_with "@compareOp In str ref" => k_extra "compareOp In str ref"
  k_with "@compareOp NotIn str ref" => k_extra "compareOp NotIn str ref"
  k_with "@call type:list cons nil" => k_extra "call type:list cons nil"
  k_with "@call builtin:len cons nil" => k_extra "call builtin:len cons nil"
  k_with "@setItem ref str" => k_extra "setItem ref str"
  k_with "@call builtin:list.append cons nil" => k_extra "call builtin:list.append cons nil"
  k_with "@call builtin:len" => k_extra "call builtin:len"
  k_with "@subscriptTail Name BinOp str int" => k_extra "subscriptTail Name BinOp str int"
  k_with "@subscriptTail Attribute Name Name ref int" => k_extra "subscriptTail Attribute Name Name ref int"
  k_with "@call builtin:str.join cons nil" => k_extra "call builtin:str.join cons nil"
  k_with "@subscriptTail Name Name str int" => k_extra "subscriptTail Name Name str int"
  k_with "@subscriptTail Name Name ref int" => k_extra "subscriptTail Name Name ref int"
  k_with "@setItem ref int int" => k_extra "setItem ref int int"
  k_with "@call builtin:dict.get cons nil" => k_extra "call builtin:dict.get cons nil"
  k_with "@subscriptTail Name Slice ref ref" => k_extra "subscriptTail Name Slice ref ref"
  k_with "@subscriptTail Name Constant ref int" => k_extra "subscriptTail Name Constant ref int"
  k_with "@call builtin:str.lower" => k_extra "call builtin:str.lower"
  k_with "@subscriptTail Name UnaryOp ref int" => k_extra "subscriptTail Name UnaryOp ref int"
  k_with "@subscriptTail Name Name ref str" => k_extra "subscriptTail Name Name ref str"
  k_with "@compareOp Eq str str" => k_extra "compareOp Eq str str"
  k_with "@compareOp Eq int int" => k_extra "compareOp Eq int int"
  exact True.intro

section
-- part Vec
noncomputable abbrev vecEs (w : World) (t1 t2 t3 t4 t5 : Nat) (kind : Str) (tk : Nat) (items : Value) : List DictEntry :=
  [{ hash := PyData.keyHash w.params (Str.ofString "kind"), key := Value.str (Str.ofString "kind") t1, val := Value.str kind tk },
   { hash := PyData.keyHash w.params (Str.ofString "items"), key := Value.str (Str.ofString "items") t2, val := items },
   { hash := PyData.keyHash w.params (Str.ofString "attrs"), key := Value.str (Str.ofString "attrs") t3, val := Value.none },
   { hash := PyData.keyHash w.params (Str.ofString "shared"), key := Value.str (Str.ofString "shared") t4, val := Value.bool false },
   { hash := PyData.keyHash w.params (Str.ofString "loose"), key := Value.str (Str.ofString "loose") t5, val := Value.bool false }]
noncomputable abbrev tup (vs : List Value) : Obj := { cls := Value.type "tuple", data := Data.seq vs.toArray }

end

section
-- part Beat
theorem ints_nil {vs : List Value} (h : IntsAre vs []) : vs = [] := by
  have := h.length
  cases vs with
  | nil => rfl
  | cons v r => simp at this
theorem ints_cons {vs : List Value} {k : Int} {ns : List Int} (h : IntsAre vs (k :: ns)) : ∃ t r, vs = .int k t :: r ∧ IntsAre r ns := by
  cases h with
  | cons k t h => exact ⟨t, _, rfl, h⟩
/-- one draw: the value; what is left is the tail -/
noncomputable def drawn (ns : List Int) (k : Int) : Int := match ns with
  | [] => 0
  | n :: _ => Int.fmod n k
theorem drawn_bound (ns : List Int) {k : Int} (hk : 0 < k) : 0 ≤ drawn ns k ∧ drawn ns k < k := by
  cases ns with
  | nil => exact ⟨Int.le_refl _, hk⟩
  | cons n r => exact ⟨Int.fmod_nonneg_of_pos _ hk, Int.fmod_lt_of_pos _ hk⟩
theorem pop0 {prog : Program} {w : World} {A : Around} {E : Value → Shared → Prop} {s : Shared} {h₀ : Heap} {L D : Addr} {m : Str → Option Value} {news news' : List (Addr × Obj)} {v : Value} {r : List Value} {n : Nat} {u : Tok} {Q : Value → Shared → Prop}
    (F : Fr h₀ L s.heap m) (N : News h₀ L s.heap news) (U : Upd D (listOf (v :: r).toArray n) (listOf r.toArray (n + 1)) news news') (hz : (v :: r).length ≤ sizeLine)
    (h : ∀ h', Fr h₀ L h' m → News h₀ L h' news' → Q v { s with heap := h' }) : wpAny (model prog w) A (call (.builtin "list.pop") [.ref D, .int 0 u]) Q E s :=
  kl_popAt (k := 0) (p := []) (q := r) F N rfl (by simp [seqIndex?]) rfl U hz h
set_option maxRecDepth 100000 in
set_option maxHeartbeats 1000000 in
theorem beat_ok (w : World) (d : Addr) (vs : List Value) (ns : List Int) (n : Nat) (k : Int) (tk : Nat) (hi : IntsAre vs ns) (hn : ns.length ≤ 90) (hk0 : 0 < k) (hk1 : k < 1000) :
  CallsOk w 681 [.ref d, .int k tk] 3 200 [(d, listOf vs.toArray n)] (fun _ => True) (fun v post => ∃ t n', v = .int (drawn ns k) t ∧ post = [(d, listOf vs.tail.toArray n')]) := by
  unfold CallsOk
  have tg9 : Mine.Tg 99045 := tgI 99045
  k_fill
  intro p loose mean mg mb dp un gd cn cs a ccd cl outer A₀ base h₀ L m rest s Q E B F X N hoff T hk hd hu hy hret
  refine wpAny_call ?_
  k_dflt (refine' code_defW ?y0k1 ?y0k2 ?y0k3 ?y0k4 ?y0kO ?y0k5 ?y0kA ?y0kF ?y0kK ?y0k6 ?y0k7 ?y0k8 ?y0k9 ?y0kB ?y0kR ?_ ?y0c2 ?y0c3 ?y0c4 ?y0c5; (case y0kA => exact rfl); (case y0kF => exact rfl); (case y0kK => assumption); (case y0k1 => k_asm); (case y0k2 => k_asm); (case y0k3 => k_asm); (case y0k4 => k_asm); (case y0kO => assumption); (case y0k5 => k_asm); (case y0k6 => k_is); (case y0k7 => k_is); (case y0k8 => ktr_room); (case y0k9 => first | exact BindsTo.of_eq rfl | exact binds_K (by k_in) rfl (by k_is) rfl rfl rfl); (case y0c5 => decide); (case y0kB => exact locs rfl); (case y0kR => assumption); (case y0c2 => exact rfl); (case y0c3 => exact rfl); (case y0c4 => exact rfl); k_whole; intro g1 L1 h1 FG1 F1 N1 B1 X1 T1 G1; (try k_lift B1); (first | ((refine name_env2 ?_); intro tkE aA eE qk xE) | ((try dsimp only); (try k_fold); (try ((refine name_env ?_); intro aA eE xE)))))
  k_steps
  ·
    rename (_ = true) => hq
    have e := of_decide_eq_true hq
    subst e
    cases ints_nil hi
    exact Out.intro (by assumption) (by assumption) [(d, listOf #[] n)] (by kqd_sub) ⟨_, n, rfl, rfl⟩
  · rename (_ = false) => hq
    have e := of_decide_eq_false hq
    cases ns with
    | nil => exact absurd rfl e
    | cons q r =>
      (first | (refine hideW ?_; intro gG9; obtain ⟨t, vr, zq1, hr⟩ := ints_cons hi; refine (?_ : wpAny _ _ _ _ _ _); clear gG9; (first | subst zq1 | cases zq1)) | obtain ⟨t, vr, rfl, hr⟩ := ints_cons hi)
      k_dflt (refine' pop0 ?k1 ?k2 ?k3 ?k4 ?_)
      case k1 => k_asm
      case k2 => k_asm
      case k3 => k_upd
      case k4 => have := hi.length; rw [sizeLine_eq]; (exact om208 (by k_asm) (by k_asm))
      intro h2 F2 N2
      k_steps
      exact Out.intro (by assumption) N2 [(d, listOf vr.toArray (n + 1))] (by kqd_sub) ⟨_, _, rfl, rfl⟩

end

section
-- part ListL
section
variable {prog : Program} {w : World} {A : Around} {E : Value → Shared → Prop} {s : Shared} {env : Env} {h₀ : Heap} {x : Str} {body : List Stmt} {Q : Flow → Shared → Prop}
/-- over a list of the ledger that the turns leave alone -/
theorem for_listL {σ : Type} {l : Addr} {vs : List Value} {nn : Nat} {m₀ : Str → Option Value} (Led : σ → List (Addr × Obj)) (ps : σ → List (Str × Value)) (stored : List Str) (P : Nat → σ → Prop) (c₀ : σ)
    (hh : A.handled = none) (hl : ∀ c : σ, (l, listOf vs.toArray nn) ∈ Led c) (F : Fr h₀ env.locals s.heap m₀) (N : News h₀ env.locals s.heap (Led c₀)) (hk : ∀ p ∈ ps c₀, m₀ p.1 = some p.2) (hp : P 0 c₀)
    (turn : ∀ (c : σ) (i : Nat) v (u : Str → Option Value) h tk own, i < vs.length → vs[i]? = some v → OwnOff own ((Led c₀).map (·.1)) → (Led c).map (·.1) = (Led c₀).map (·.1) → P i c →
      Fr h₀ env.locals h (fun y => if y = x then some v else kstB (fun z => if stored.contains z then u z else m₀ z) (ps c) y) → News h₀ env.locals h (Led c ++ own) →
      wpAny (model prog w) A (execs body env) (Turn h₀ env.locals x Led ps stored m₀ (P (i + 1)) own ((Led c₀).map (·.1)) { s with heap := h, toks := tk } Q) E { s with heap := h, toks := tk })
    (done : ∀ (c : σ) (u : Str → Option Value) h tk, P vs.length c → Fr h₀ env.locals h (fun y => if y = x then u y else kstB (fun z => if stored.contains z then u z else m₀ z) (ps c) y) → News h₀ env.locals h (Led c) → Q .next { s with heap := h, toks := tk }) :
    wpAny (model prog w) A (pyIter (.ref l)) (fun it s₂ => LoopAtV prog w A h₀ env x body Q E it s₂) E s := by
  have there : s.heap.get? l = some (listOf vs.toArray nn) := (N _ (hl c₀)).1
  have isl : s.heap.IsList l vs.toArray := ⟨_, there, rfl, nn, rfl⟩
  have lI : l ≠ s.heap.objs.size := Nat.ne_of_lt (Heap.lt_size there)
  refine wpAny_pyIter_list isl ?_
  have W := Walks.list (prog := prog) (w := w) hh s.heap.objs.size l lI vs.toArray
  rw [List.size_toArray] at W
  have offI : ∀ q ∈ Led c₀, q.1 ≠ s.heap.objs.size := fun q hq => Nat.ne_of_lt (Heap.lt_size (N q hq).1)
  refine ⟨_, _, _, vs.length, _, _, m₀, Led c₀, (fun i m nx => nx.map (·.1) = (Led c₀).map (·.1) ∧ ValS Led ps x stored m₀ (P i) m nx), rfl, W, ?_, ?_, ?_, ⟨⟨_, Heap.get?_push_size _ rfl, rfl, rfl⟩, isl.at fun o e => Heap.get?_push_of_some _ e⟩, F.push _,
    (fun q hq => ⟨Heap.get?_push_of_some _ (N q hq).1, (N q hq).2⟩), ⟨rfl, c₀, rfl, hk, fun _ _ _ _ => rfl, hp⟩, ?_, ?_⟩
  · intro hm
    rcases List.mem_cons.mp hm with e | hm
    · exact absurd F.ns.lt (e ▸ Nat.lt_irrefl _)
    · exact (N _ (hl c₀)).2.1 (List.mem_singleton.mp hm).symm
  · intro b hb
    rw [List.mem_singleton.mp hb]
    exact next_is_new F
  · intro q hq hI
    exact offI q hq (List.mem_singleton.mp hI)
  · rintro i v m₁ nx s₁ own ⟨h, tk, rfl⟩ hi hv ⟨hadr, c, rfl, hk1, hk2, hP⟩ - hown hget hfp - F₁ N₁
    let mine := own.filter fun q => decide (q.1 = s.heap.objs.size)
    have inMine : ∀ q, q ∈ mine ↔ q ∈ own ∧ q.1 = s.heap.objs.size := fun q => by simp [mine]
    have off : OwnOff mine ((Led c₀).map (·.1)) := fun q hq b hb e => by
      (first | (refine hideW ?_; intro gG9; obtain ⟨r, hr, zq1⟩ := List.mem_map.mp hb; refine (?_ : wpAny _ _ _ _ _ _); clear gG9; (first | subst zq1 | cases zq1)) | obtain ⟨r, hr, rfl⟩ := List.mem_map.mp hb)
      exact offI r hr (e ▸ ((inMine q).mp hq).2)
    have theL : h.get? l = some (listOf vs.toArray nn) := (N₁ _ (List.mem_append.mpr (.inr (hl c)))).1
    have N₂ : News h₀ env.locals h (Led c ++ mine) := fun q hq => by
      rcases List.mem_append.mp hq with hq | hq
      · exact N₁ q (List.mem_append.mpr (.inr hq))
      · exact N₁ q (List.mem_append.mpr (.inl ((inMine q).mp hq).1))
    refine wpAny_mono (turn c i v m₁ h tk mine hi (by simpa using hv) off hadr hP (kst_fr hk1 hk2 F₁) N₂) (fun f s₂ q => ?_) fun _ _ e => e
    have again : InvEndN h₀ env.locals (ValS Led ps x stored m₀ (P (i + 1))) mine ((Led c₀).map (·.1)) { s with heap := h, toks := tk } s₂ →
        LoopStepU h₀ env.locals [s.heap.objs.size] own (fun m nx => nx.map (·.1) = (Led c₀).map (·.1) ∧ ValS Led ps x stored m₀ (P (i + 1)) m nx) { s with heap := h, toks := tk } .next s₂ := by
      rintro ⟨h', tk', m', all, nx', e, F', N', hn, ho, ha, hV⟩
      have hlx : (l, listOf vs.toArray nn) ∈ nx' := by
        (first | (refine hideW ?_; intro gG9; obtain ⟨c', zq1, -⟩ := hV; refine (?_ : wpAny _ _ _ _ _ _); clear gG9; (first | subst zq1 | cases zq1)) | obtain ⟨c', rfl, -⟩ := hV)
        exact hl c'
      refine ⟨rfl, h', tk', m', nx', e, F', fun q hq => ?_, fun q hq hI => ?_, ha, hV⟩
      · rcases List.mem_append.mp hq with hq | hq
        · rcases List.mem_cons.mp (hown q hq) with h2 | h2
          · exact N' q (ho q ((inMine q).mpr ⟨hq, h2⟩))
          · have h3 := hget q hq
            have h4 : q.1 = l := List.mem_singleton.mp h2
            rw [h4, theL] at h3
            rw [show q = (l, listOf vs.toArray nn) from Prod.ext h4 (Option.some.inj h3).symm]
            exact N' _ (hn _ hlx)
        · exact N' q (hn q hq)
      · have h1 : q.1 ∈ nx'.map (·.1) := List.mem_map.mpr ⟨q, hq, rfl⟩
        rw [ha] at h1
        (first | (refine hideW ?_; intro gG9; obtain ⟨r, hr, e⟩ := List.mem_map.mp h1; refine (?_ : wpAny _ _ _ _ _ _); clear gG9) | obtain ⟨r, hr, e⟩ := List.mem_map.mp h1)
        exact offI r hr (e.trans (List.mem_singleton.mp hI))
    cases f with
    | ret v => exact .ret q
    | brk => exact .brk q
    | next => exact .next (again q)
    | cont => exact .cont (again q)
  · rintro h' tk m' nx F' N' - ⟨-, c, rfl, hk1, hk2, hP⟩
    exact done c m' h' tk hP (kst_frOut hk1 hk2 F') N'
end
/-- a joint that keeps the other names as they stood -/
noncomputable def AtM {σ : Type} (g : Heap) (L : Addr) (s : Shared) (mB : Str → Option Value) (ps : σ → List (Str × Value)) (Led : σ → List (Addr × Obj)) (P : σ → Prop) (s' : Shared) : Prop :=
  ∃ (c : σ) (h : Heap) (tk : Nat), s' = { s with heap := h, toks := tk } ∧ Fr g L h (kstB mB (ps c)) ∧ News g L h (Led c) ∧ P c
theorem AtM.intro {σ : Type} {g : Heap} {L : Addr} {s : Shared} {mB : Str → Option Value} {ps : σ → List (Str × Value)} {Led : σ → List (Addr × Obj)} {P : σ → Prop} {h : Heap} {tk : Nat} {m : Str → Option Value} {all : List (Addr × Obj)} (F : Fr g L h m) (N : News g L h all) (c : σ) (hs : ∀ q ∈ Led c, q ∈ all) (hk : ∀ q ∈ ps c, m q.1 = some q.2)
    (hr : ∀ z, (∀ q ∈ ps c, z ≠ q.1) → ([] : List Str).contains z = false → m z = mB z) (hp : P c) : AtM g L s mB ps Led P { s with heap := h, toks := tk } :=
  ⟨c, h, tk, rfl, by rw [show kstB mB (ps c) = m from funext fun _ => kstB_eq hk fun hz => (hr _ hz rfl).symm]; exact F, fun q hq => N q (hs q hq), hp⟩
theorem cut_fr {σ : Type} {M : Model} {A : Around} {env : Env} {E : Value → Shared → Prop} {Q : Flow → Shared → Prop} {l : List Stmt} {s : Shared} {g : Heap} {L : Addr} {mB : Str → Option Value} (_F : Fr g L s.heap mB) (n : Nat) (ps : σ → List (Str × Value)) (Led : σ → List (Addr × Obj)) (P : σ → Prop)
    (h1 : wpAny M A (execs (l.take n) env) (fun f s' => match f with | .next => AtM g L s mB ps Led P s' | f => Q f s') E s)
    (h2 : ∀ c h tk, Fr g L h (kstB mB (ps c)) → News g L h (Led c) → P c → wpAny M A (execs (l.drop n) env) Q E { s with heap := h, toks := tk }) : wpAny M A (execs l env) Q E s :=
  cut_at n _ h1 fun s' h => by
    (first | (refine hideW ?_; intro gG9; obtain ⟨c, h, tk, zq1, F, N, hp⟩ := h; refine (?_ : wpAny _ _ _ _ _ _); clear gG9; (first | subst zq1 | cases zq1)) | obtain ⟨c, h, tk, rfl, F, N, hp⟩ := h)
    exact h2 c h tk F N hp

end

section
-- part MatchP
/-! what Matching reckons, over plain data -/
noncomputable abbrev MSt := List Int × List (Str × Int)
noncomputable def rowM (f : Nat → MSt → Option MSt) : Nat → MSt → Option MSt
  | 0, st => some st
  | n + 1, st => (rowM f n st).bind (f n)
noncomputable def manyM {α : Type} (g : α → MSt → Option MSt) : List α → MSt → Option MSt
  | [], st => some st
  | a :: l, st => (g a st).bind (manyM g l)
theorem rowM_prefix {f : Nat → MSt → Option MSt} : ∀ {n : Nat} {st fin : MSt}, rowM f n st = some fin → ∀ {i : Nat}, i < n → ∃ a b, rowM f i st = some a ∧ f i a = some b ∧ rowM f (i + 1) st = some b
  | 0, _, _, _, _, h => absurd h (Nat.not_lt_zero _)
  | n + 1, st, fin, e, i, h => by
    have e' : (rowM f n st).bind (f n) = some fin := e
    cases q : rowM f n st with
    | none => rw [q] at e'; cases e'
    | some a =>
      rw [q] at e'
      rcases Nat.lt_or_ge i n with hi | hi
      · exact rowM_prefix q hi
      · obtain rfl : i = n := by (exact om121 (by k_asm) (by k_asm))
        exact ⟨a, fin, q, e', e⟩
theorem manyM_app {α : Type} {g : α → MSt → Option MSt} : ∀ {l r : List α} {st : MSt}, manyM g (l ++ r) st = (manyM g l st).bind (manyM g r)
  | [], _, _ => rfl
  | a :: l, r, st => by
    show (g a st).bind (manyM g (l ++ r)) = ((g a st).bind (manyM g l)).bind (manyM g r)
    cases g a st with
    | none => rfl
    | some b => exact manyM_app
theorem manyM_prefix {α : Type} {g : α → MSt → Option MSt} {l : List α} {st fin : MSt} (e : manyM g l st = some fin) {i : Nat} {a : α} (h : l[i]? = some a) : ∃ b c, manyM g (l.take i) st = some b ∧ g a b = some c ∧ manyM g (l.take (i + 1)) st = some c := by
  have s1 : l.take (i + 1) = l.take i ++ [a] := by simp [List.take_add_one, h]
  have s2 : l = l.take (i + 1) ++ l.drop (i + 1) := (List.take_append_drop _ _).symm
  rw [s2, manyM_app] at e
  cases q : manyM g (l.take (i + 1)) st with
  | none => rw [q] at e; cases e
  | some c =>
    have q' := q
    rw [s1, manyM_app] at q'
    cases z : manyM g (l.take i) st with
    | none => rw [z] at q'; cases q'
    | some b =>
      rw [z] at q'
      refine ⟨b, c, rfl, ?_, rfl⟩
      have : (g a b).bind (manyM g []) = some c := q'
      cases y : g a b with
      | none => rw [y] at this; cases this
      | some d => rw [y] at this; exact this
noncomputable def exIn (tags : List (Option Str)) (name : Str) (i : Nat) (st : MSt) : Option MSt :=
  if tags[i]? = some (some name) ∧ st.1[i]? = some 0 then (if name ∈ st.2.map (·.1) then none else some (st.1.set i 2, st.2 ++ [(name, (i : Int))])) else some st
noncomputable def exRow (tags : List (Option Str)) (name : Str) (st : MSt) : Option MSt := rowM (exIn tags name) tags.length st
noncomputable def exAll (tags : List (Option Str)) (formals : List Str) (st : MSt) : Option MSt := manyM (exRow tags) formals st
/-! texts and nothings -/
noncomputable def OSV : Option Str → Value → Prop
  | none, v => v = .none
  | some x, v => ∃ t, v = .str x t
noncomputable def OSAre (vs : List Value) (xs : List (Option Str)) : Prop := vs.length = xs.length ∧ ∀ (i : Nat) (v : Value), vs[i]? = some v → ∃ x, xs[i]? = some x ∧ OSV x v
theorem OSAre.nil : OSAre [] [] := ⟨rfl, fun _ _ h => by simp at h⟩
theorem OSAre.cons {v : Value} {x : Option Str} {vs : List Value} {xs : List (Option Str)} (h : OSV x v) (r : OSAre vs xs) : OSAre (v :: vs) (x :: xs) := by
  refine ⟨by simp [r.1], fun i u e => ?_⟩
  cases i with
  | zero => simp at e; subst e; exact ⟨x, rfl, h⟩
  | succ i => exact r.2 i u (by simpa using e)
theorem OSAre.append {vs us : List Value} {xs ys : List (Option Str)} (h : OSAre vs xs) (k : OSAre us ys) : OSAre (vs ++ us) (xs ++ ys) := by
  refine ⟨by simp [h.1, k.1], fun i v e => ?_⟩
  rcases Nat.lt_or_ge i vs.length with hi | hi
  · rw [List.getElem?_append_left hi] at e
    rw [List.getElem?_append_left (h.1 ▸ hi)]
    exact h.2 i v e
  · rw [List.getElem?_append_right hi] at e
    rw [List.getElem?_append_right (h.1 ▸ hi), ← h.1]
    exact k.2 _ v e
theorem OSAre.at {vs : List Value} {xs : List (Option Str)} (h : OSAre vs xs) {i : Nat} (hi : i < xs.length) : ∃ v, vs[i]? = some v ∧ OSV (xs[i]) v := by
  have hv : i < vs.length := h.1 ▸ hi
  obtain ⟨x, e, q⟩ := h.2 i vs[i] (by simp [hv])
  refine ⟨vs[i], by simp [hv], ?_⟩
  have : xs[i]? = some xs[i] := by simp [hi]
  rw [this] at e
  cases e
  exact q
theorem ints_at {vs : List Value} {ns : List Int} (h : IntsAre vs ns) {i : Nat} (hi : i < ns.length) : ∃ t, vs[i]? = some (.int (ns[i]) t) := by
  obtain ⟨t, e⟩ := h.get i ns[i] (by simp [hi])
  exact ⟨t, e⟩
theorem ints_set {vs : List Value} {ns : List Int} (h : IntsAre vs ns) (i : Nat) (k : Int) (t : Nat) : IntsAre (vs.set i (.int k t)) (ns.set i k) := by
  induction h generalizing i with
  | nil => exact .nil
  | cons n u h ih =>
    cases i with
    | zero => exact .cons k t h
    | succ i => exact .cons n u (ih i)
/-- the places kept in a dict -/
noncomputable abbrev pv (ps : List (Str × Int × Nat)) : List (Str × Value) := ps.map fun p => (p.1, .int p.2.1 p.2.2)
noncomputable abbrev pd (ps : List (Str × Int × Nat)) : List (Str × Int) := ps.map fun p => (p.1, p.2.1)
theorem valueAt_pv {ps : List (Str × Int × Nat)} {x : Str} : (valueAt (pv ps) x).isSome = decide (x ∈ (pd ps).map (·.1)) := by
  induction ps with
  | nil => rfl
  | cons p r ih =>
    have e1 : valueAt (pv (p :: r)) x = if p.1 = x then some (.int p.2.1 p.2.2) else valueAt (pv r) x := by
      unfold valueAt
      simp only [List.map_cons, List.find?_cons]
      by_cases e : p.1 = x
      · simp [e]
      · simp [e]
    rw [e1]
    by_cases e : p.1 = x
    · simp [e]
    · have e2 : ¬ x = p.1 := fun h => e h.symm
      rw [if_neg e, ih]
      simp [e2]
theorem stored_pv {ps : List (Str × Int × Nat)} {x : Str} {k : Int} {t : Nat} (h : x ∉ (pd ps).map (·.1)) : stored (pv ps) x (.int k t) = pv (ps ++ [(x, k, t)]) := by
  unfold stored
  rw [if_neg]
  · simp
  · intro q
    obtain ⟨kv, hm, e⟩ := List.any_eq_true.mp q
    obtain ⟨p, hp, rfl⟩ := List.mem_map.mp hm
    have e' : p.1 = x := by simpa using e
    exact h (List.mem_map.mpr ⟨(p.1, p.2.1), List.mem_map.mpr ⟨p, hp, rfl⟩, e'⟩)
noncomputable def MUp (a b : MSt) : Prop := b.1.length = a.1.length ∧ a.2.length ≤ b.2.length
theorem MUp.refl (a : MSt) : MUp a a := ⟨rfl, Nat.le_refl _⟩
theorem MUp.trans {a b c : MSt} (x : MUp a b) (y : MUp b c) : MUp a c := ⟨y.1.trans x.1, Nat.le_trans x.2 y.2⟩
theorem rowM_up {f : Nat → MSt → Option MSt} (hf : ∀ i a b, f i a = some b → MUp a b) : ∀ {n : Nat} {a b : MSt}, rowM f n a = some b → MUp a b
  | 0, a, b, e => by cases e; exact .refl _
  | n + 1, a, b, e => by
    have e' : (rowM f n a).bind (f n) = some b := e
    cases q : rowM f n a with
    | none => rw [q] at e'; cases e'
    | some c => rw [q] at e'; exact (rowM_up hf q).trans (hf _ _ _ e')
theorem manyM_up {α : Type} {g : α → MSt → Option MSt} (hg : ∀ x a b, g x a = some b → MUp a b) : ∀ {l : List α} {a b : MSt}, manyM g l a = some b → MUp a b
  | [], a, b, e => by cases e; exact .refl _
  | x :: l, a, b, e => by
    have e' : (g x a).bind (manyM g l) = some b := e
    cases q : g x a with
    | none => rw [q] at e'; cases e'
    | some c => rw [q] at e'; exact (hg _ _ _ q).trans (manyM_up hg e')
theorem manyM_rest {α : Type} {g : α → MSt → Option MSt} {l : List α} {a b fin : MSt} (e : manyM g l a = some fin) (i : Nat) (h : manyM g (l.take i) a = some b) : manyM g (l.drop i) b = some fin := by
  rw [← List.take_append_drop i l, manyM_app, h] at e
  exact e
theorem rowM_rest {f : Nat → MSt → Option MSt} (hf : ∀ i a b, f i a = some b → MUp a b) : ∀ {n : Nat} {a fin : MSt}, rowM f n a = some fin → ∀ {i : Nat} {b : MSt}, i ≤ n → rowM f i a = some b → MUp b fin
  | 0, a, fin, e, i, b, hi, h => by
    obtain rfl : i = 0 := by (exact om125 (by k_asm))
    rw [e] at h; cases h; exact .refl _
  | n + 1, a, fin, e, i, b, hi, h => by
    rcases Nat.lt_or_ge i (n + 1) with q | q
    · have e' : (rowM f n a).bind (f n) = some fin := e
      cases z : rowM f n a with
      | none => rw [z] at e'; cases e'
      | some c => rw [z] at e'; exact (rowM_rest hf z (by (exact om126 (by k_asm))) h).trans (hf _ _ _ e')
    · obtain rfl : i = n + 1 := by (exact om127 (by k_asm) (by k_asm))
      rw [e] at h; cases h; exact .refl _
theorem exIn_up {tags : List (Option Str)} {name : Str} (i : Nat) (a b : MSt) (e : exIn tags name i a = some b) : MUp a b := by
  unfold exIn at e
  split at e
  · split at e
    · cases e
    · cases e; exact ⟨by simp, by simp⟩
  · cases e; exact .refl _
theorem exRow_up {tags : List (Option Str)} (name : Str) (a b : MSt) (e : exRow tags name a = some b) : MUp a b := rowM_up exIn_up e
/-- the state of a Matching, laid -/
structure MS where
  uo : Obj
  us : List Int
  o : Obj
  ps : List (Str × Int × Nat)
noncomputable abbrev mEs (w : World) (t1 t2 t3 t4 : Nat) (Fm Tg Us Pl : Addr) : List DictEntry :=
  [{ hash := PyData.keyHash w.params (Str.ofString "formals"), key := Value.str (Str.ofString "formals") t1, val := Value.ref Fm },
   { hash := PyData.keyHash w.params (Str.ofString "tags"), key := Value.str (Str.ofString "tags") t2, val := Value.ref Tg },
   { hash := PyData.keyHash w.params (Str.ofString "used"), key := Value.str (Str.ofString "used") t3, val := Value.ref Us },
   { hash := PyData.keyHash w.params (Str.ofString "places"), key := Value.str (Str.ofString "places") t4, val := Value.ref Pl }]
noncomputable abbrev mLed (w : World) (M dM Fm Tg Us Pl : Addr) (t1 t2 t3 t4 nf nt : Nat) (fvs tvs : List Value) (c : MS) : List (Addr × Obj) :=
  [(M, instObj 429 dM), (dM, dictOf (mEs w t1 t2 t3 t4 Fm Tg Us Pl) 4), (Fm, listOf fvs.toArray nf), (Tg, listOf tvs.toArray nt), (Us, c.uo), (Pl, c.o)]
noncomputable abbrev PG : Program := PySem.Challenge.rw_pq1336_01.row.prog
noncomputable def UAre (o : Obj) (ns : List Int) : Prop := ∃ vs n, IntsAre vs ns ∧ o.cls = Value.type "list" ∧ o.data = Data.seq vs.toArray n
noncomputable def MOk (w : World) (st : MSt) (c : MS) : Prop := UAre c.uo c.us ∧ c.o.IsDictOf (strKind PySem.Challenge.rw_pq1336_01.row.prog w) (pv c.ps) ∧ st = (c.us, pd c.ps)
noncomputable def MNe (M dM Fm Tg Us Pl : Addr) : Prop := (@Ne Nat Us M) ∧ (@Ne Nat Us dM) ∧ (@Ne Nat Us Fm) ∧ (@Ne Nat Us Tg) ∧ (@Ne Nat Us Pl) ∧ (@Ne Nat Pl M) ∧ (@Ne Nat Pl dM) ∧ (@Ne Nat Pl Fm) ∧ (@Ne Nat Pl Tg)
theorem item_at {prog : Program} {w : World} {A : Around} {E : Value → Shared → Prop} {s : Shared} {h₀ : Heap} {L : Addr} {news : List (Addr × Obj)} {value slice : PySem.Expr} {l : Addr} {vs : List Value} {n i : Nat} {k : Int} {u : Tok} {v : Value} {Q : Value → Shared → Prop}
    (N : News h₀ L s.heap news) (hm : (l, listOf vs.toArray n) ∈ news) (hx : vs[i]? = some v) (hk : k = (i : Int)) (hi : i < 1000000) (h : Q v s)
    (hs : subscripted slice false (.ref l) (.int k u) = operate [.ref l, .int k u] (getItem (.ref l) (.int k u)) := by with_unfolding_all rfl) :
    wpAny (model prog w) A (subscriptTail value slice (.ref l) (.int k u)) Q E s := by
  subst hk
  have hl : s.heap.IsList l vs.toArray := ⟨_, (N _ hm).1, rfl, n, rfl⟩
  exact tail_any hl.typeIs slot_list_getitem.lookup (wpAny_getItem_list hl (by (exact om128)) (by (exact om129 (by k_asm))) (by simpa using hx) h) hs
theorem uitem_at {prog : Program} {w : World} {A : Around} {E : Value → Shared → Prop} {s : Shared} {h₀ : Heap} {L : Addr} {news : List (Addr × Obj)} {value slice : PySem.Expr} {l : Addr} {o : Obj} {ns : List Int} {i : Nat} {k : Int} {u : Tok} {Q : Value → Shared → Prop}
    (N : News h₀ L s.heap news) (hm : (l, o) ∈ news) (hu : UAre o ns) (hi : i < ns.length) (hk : k = (i : Int)) (hl : i < 1000000) (h : ∀ t, Q (.int (ns.getD i 0) t) s)
    (hs : subscripted slice false (.ref l) (.int k u) = operate [.ref l, .int k u] (getItem (.ref l) (.int k u)) := by with_unfolding_all rfl) :
    wpAny (model prog w) A (subscriptTail value slice (.ref l) (.int k u)) Q E s := by
  subst hk
  obtain ⟨vs, n, hv, hc, hd⟩ := hu
  obtain ⟨t, ht⟩ := ints_at hv hi
  have hl' : s.heap.IsList l vs.toArray := ⟨_, (N _ hm).1, hc, n, hd⟩
  refine tail_any hl'.typeIs slot_list_getitem.lookup (wpAny_getItem_list hl' (by (exact om128)) (by (exact om129 (by k_asm))) (by simpa using ht) ?_) hs
  have := h t
  rwa [List.getD_eq_getElem?_getD, List.getElem?_eq_getElem hi] at this
theorem uitem_int {prog : Program} {w : World} {A : Around} {E : Value → Shared → Prop} {s : Shared} {h₀ : Heap} {L : Addr} {news : List (Addr × Obj)} {value slice : PySem.Expr} {l : Addr} {o : Obj} {ns : List Int} {k : Int} {u : Tok} {Q : Value → Shared → Prop}
    (N : News h₀ L s.heap news) (hm : (l, o) ∈ news) (hu : UAre o ns) (h0 : 0 ≤ k) (hi : k < (ns.length : Int)) (hl : ns.length < 1000000) (h : ∀ t, Q (.int (ns.getD k.toNat 0) t) s)
    (hs : subscripted slice false (.ref l) (.int k u) = operate [.ref l, .int k u] (getItem (.ref l) (.int k u)) := by with_unfolding_all rfl) :
    wpAny (model prog w) A (subscriptTail value slice (.ref l) (.int k u)) Q E s :=
  uitem_at N hm hu (by (exact om130 (by k_asm) (by k_asm))) (by (exact om81 (by k_asm))) (by (exact om131 (by k_asm) (by k_asm))) h hs
theorem uitem_nz {prog : Program} {w : World} {A : Around} {E : Value → Shared → Prop} {s : Shared} {h₀ : Heap} {L : Addr} {news : List (Addr × Obj)} {value slice : PySem.Expr} {l : Addr} {o : Obj} {ns : List Int} {k : Int} {u : Tok} {Q : Value → Shared → Prop}
    (N : News h₀ L s.heap news) (hm : (l, o) ∈ news) (hu : UAre o ns) (h0 : 0 ≤ k) (hi : k < (ns.length : Int)) (hl : ns.length < 1000000) (hz : ∀ i, i < ns.length → ns.getD i 0 ≠ 0) (h : ∀ z t, z ≠ 0 → Q (.int z t) s)
    (hs : subscripted slice false (.ref l) (.int k u) = operate [.ref l, .int k u] (getItem (.ref l) (.int k u)) := by with_unfolding_all rfl) :
    wpAny (model prog w) A (subscriptTail value slice (.ref l) (.int k u)) Q E s :=
  uitem_int N hm hu h0 hi hl (fun t => h _ t (hz _ (by (exact om130 (by k_asm) (by k_asm))))) hs
theorem uset_at {prog : Program} {w : World} {A : Around} {E : Value → Shared → Prop} {s : Shared} {h₀ : Heap} {L l : Addr} {m : Str → Option Value} {news : List (Addr × Obj)} {g : Obj → List (Addr × Obj)} {o : Obj} {ns : List Int} {i : Nat} {k z : Int} {u t : Tok} {Q : Unit → Shared → Prop}
    (F : Fr h₀ L s.heap m) (N : News h₀ L s.heap news) (U : UpdF l o news g) (hu : UAre o ns) (hi : i < ns.length) (hk : k = (i : Int)) (hl : i < 1000000)
    (h : ∀ h' o', Fr h₀ L h' m → News h₀ L h' (g o') → UAre o' (ns.set i z) → Q () { s with heap := h' }) :
    wpAny (model prog w) A (setItem (.ref l) (.int k u) (.int z t)) Q E s := by
  subst hk
  obtain ⟨vs, n, hv, hc, hd⟩ := hu
  obtain ⟨pre, post, rfl, hg, hp1, hp2⟩ := U.split
  have hm : (l, o) ∈ pre ++ (l, o) :: post := List.mem_append_right _ (.head _)
  have hl' : s.heap.IsList l vs.toArray := ⟨_, (N _ hm).1, hc, n, hd⟩
  have hlen : vs.length = ns.length := hv.length
  refine wpAny_setItem_list hl' (by (exact om128)) (by (exact om129 (by k_asm))) (by rw [List.size_toArray]; (exact om132 hi hlen)) fun h' hl2 hsb => ?_
  obtain ⟨o', ho', hc', n', hd'⟩ := hl2
  have hN := N _ hm
  have e : (vs.toArray.setIfInBounds ((i : Int)).toNat (Value.int z t)) = (vs.set i (Value.int z t)).toArray := by simp
  rw [e] at hd'
  refine h h' o' (kas_fr F hsb ?_ ?_) ?_ ⟨_, n', ints_set hv i z t, hc', hd'⟩
  · first | exact hN.2.1 | exact fun q => hN.2.1 q.symm | exact hN.2.2 | exact fun q => hN.2.2 q.symm
  · first | exact hN.2.1 | exact hN.2.2
  · rw [hg]
    exact news_set N hp1 hp2 hsb ho'
theorem len_at {prog : Program} {w : World} {A : Around} {E : Value → Shared → Prop} {s : Shared} {h₀ : Heap} {L : Addr} {news : List (Addr × Obj)} {l : Addr} {vs : List Value} {n : Nat} {Q : Value → Shared → Prop}
    (N : News h₀ L s.heap news) (hm : (l, listOf vs.toArray n) ∈ news) (k : Nat) (hk : vs.length = k) (hs : k < 1000000) (h : Q (.int (k : Int) (s.toks + 1)) { s with toks := s.toks + 1 + 1 }) :
    wpAny (model prog w) A (call (.builtin "len") [.ref l]) Q E s := by
  subst hk
  exact call_len_list ⟨_, (N _ hm).1, rfl, n, rfl⟩ (by rw [List.size_toArray]; (exact om129 (by k_asm))) (by rw [List.size_toArray]; exact h)
theorem exIn_free {tags : List (Option Str)} {name y : Str} {i : Nat} {us : List Int} {l : List (Str × Int)} {b : MSt} (e : exIn tags name i (us, l) = some b) (hi : i < tags.length) (hy : tags[i] = some y) (hn : (y == name) = true) (hl : us.length = tags.length) (hu : us.getD i 0 = 0) :
    name ∉ l.map (·.1) ∧ b = (us.set i 2, l ++ [(name, (i : Int))]) := by
  have e1 : tags[i]? = some (some name) := by
    rw [List.getElem?_eq_getElem hi, hy, eq_of_beq hn]
  have e2 : us[i]? = some 0 := by
    have hi' : i < us.length := by (exact om133 (by k_asm) (by k_asm))
    rw [List.getElem?_eq_getElem hi']
    rw [List.getD_eq_getElem?_getD, List.getElem?_eq_getElem hi'] at hu
    exact congrArg some hu
  unfold exIn at e
  rw [if_pos ⟨e1, e2⟩] at e
  split at e
  · cases e
  · rename_i q
    exact ⟨q, (Option.some.inj e).symm⟩
theorem exIn_skip {tags : List (Option Str)} {name : Str} {i : Nat} {st b : MSt} (e : exIn tags name i st = some b) (h : ¬ (tags[i]? = some (some name) ∧ st.1[i]? = some 0)) : b = st := by
  unfold exIn at e
  rw [if_neg h] at e
  exact (Option.some.inj e).symm
theorem sub_l (A : List (Addr × Obj)) {own own8 : List (Addr × Obj)} : ∀ p ∈ A ++ own, p ∈ A ++ (own ++ own8) := fun p hp => by
  rw [← List.append_assoc]
  exact List.mem_append_left _ hp
theorem sub_r (A : List (Addr × Obj)) {own own8 : List (Addr × Obj)} : ∀ p ∈ own8, p ∈ A ++ (own ++ own8) := fun p hp => List.mem_append_right _ (List.mem_append_right _ hp)
theorem exIn_ne0 {tags : List (Option Str)} {name : Str} {i : Nat} {us : List Int} {l : List (Str × Int)} {b : MSt} (e : exIn tags name i (us, l) = some b) (h : us.getD i 0 ≠ 0) : b = (us, l) := exIn_skip e (by
  rintro ⟨-, q⟩
  refine h ?_
  rw [List.getD_eq_getElem?_getD]
  have q' : us[i]? = some 0 := q
  rw [q']
  rfl)
theorem exIn_none {tags : List (Option Str)} {name : Str} {i : Nat} {st b : MSt} (e : exIn tags name i st = some b) (hi : i < tags.length) (h : tags[i] = none) : b = st := exIn_skip e (by
  rintro ⟨q, -⟩
  rw [List.getElem?_eq_getElem hi, h] at q
  cases q)
theorem exIn_other {tags : List (Option Str)} {name y : Str} {i : Nat} {st b : MSt} (e : exIn tags name i st = some b) (hi : i < tags.length) (h : tags[i] = some y) (hn : ¬ (y == name) = true) : b = st := exIn_skip e (by
  rintro ⟨q, -⟩
  rw [List.getElem?_eq_getElem hi, h] at q
  cases q
  exact hn (beq_self_eq_true _))
theorem off_own {pre own : List (Addr × Obj)} {adr : List Addr} (h : OwnOff own adr) (e : pre.map (·.1) = adr) : Off pre own := by
  subst e
  intro q hq r hr he
  exact h r hr q.1 (List.mem_map.mpr ⟨q, hq, rfl⟩) he.symm
section
variable {w : World} {f : Addr} {vs : List Value} {dN uN : Nat} {pre : List (Addr × Obj)} {Hyp : Heap → Prop} {Post : Value → List (Addr × Obj) → Prop} {p : Program} {loose : List Str} {mean : ExcName → Option Value} {mg mb : Str → Option Value} {dp un : Nat} {gd : Option (List Code)} {cn : Str} {cs : Scope} {a : Addr} {ccd : Value} {cl : List (Str × Addr)} {outer : List Env} {A₀ : Around} {base h₀ : Heap} {L : Addr} {m : Str → Option Value} {s : Shared} {Q E : Value → Shared → Prop}
theorem useM {hQ : Heap} {gQ : _} {dQ : _} {tQ : Nat} {oQ : _} {all rest : List (Addr × Obj)} (hn : Off pre rest) (H : CallsOk w f vs dN uN pre Hyp Post) (B : Below A₀ base outer h₀) (F : Fr h₀ L hQ m) (X : (Mine.hd.heap_39 w.params).In h₀) (N : News h₀ L hQ all) (T : Top p loose mean mg mb h₀) (hk : cs.kind = .function)
    (hd : dp + dN < recursionLimit) (hu : un + uN < cLine) (hy : Hyp hQ) (hp : ∀ q ∈ pre ++ rest, q ∈ all)
    (ret : ∀ (v : Value) (post : List (Addr × Obj)) (h' : Heap) (tk' : Nat), Fr h₀ L h' m → News h₀ L h' (post ++ rest) → Off post rest → Post v post → Q v ⟨h', gQ, dQ, tk', oQ⟩) :
    wpAny (model PySem.Challenge.rw_pq1336_01.row.prog w) (ktrTop dp un gd cn cs L a ccd cl outer) (call (.ref f) vs) Q E ⟨hQ, gQ, dQ, tQ, oQ⟩ :=
  useL (rest := rest) H B F X N T hk hd hu hy hp hn ret
end

end

section
-- part Digits
/-- a sign's worth as digit_value tells it -/
noncomputable def digV (c : Nat) : Int := if 48 ≤ c ∧ c ≤ 57 then (c : Int) - 48 else if 97 ≤ c ∧ c ≤ 122 then (c : Int) - 97 + 10 else if 65 ≤ c ∧ c ≤ 90 then (c : Int) - 65 + 10 else 99
/-- as _law_digit does -/
noncomputable def digL (c : Nat) : Int := if digV c = 99 then -1 else digV c
theorem one_iff {x : Str} (hx : x.cps.size = 1) (c : Nat) : ((⟨#[c]⟩ : Str).cps.toList < x.cps.toList ↔ c < x.cps.getD 0 0) ∧ (x.cps.toList < (⟨#[c]⟩ : Str).cps.toList ↔ x.cps.getD 0 0 < c) := by
  obtain ⟨⟨l⟩⟩ := x
  match l, hx with
  | [d], _ =>
    constructor
    · show [c] < [d] ↔ c < d
      simp [List.cons_lt_cons_iff]
    · show [d] < [c] ↔ d < c
      simp [List.cons_lt_cons_iff]
theorem lt_one {x : Str} {c : Nat} (h : (⟨#[c]⟩ : Str).cps.toList < x.cps.toList) (hx : x.cps.size = 1) : c < x.cps.getD 0 0 := (one_iff hx c).1.mp h
theorem gt_one {x : Str} {c : Nat} (h : x.cps.toList < (⟨#[c]⟩ : Str).cps.toList) (hx : x.cps.size = 1) : x.cps.getD 0 0 < c := (one_iff hx c).2.mp h
theorem nlt_one {x : Str} {c : Nat} (h : ¬ (⟨#[c]⟩ : Str).cps.toList < x.cps.toList) (hx : x.cps.size = 1) : ¬ c < x.cps.getD 0 0 := fun q => h ((one_iff hx c).1.mpr q)
theorem ngt_one {x : Str} {c : Nat} (h : ¬ x.cps.toList < (⟨#[c]⟩ : Str).cps.toList) (hx : x.cps.size = 1) : ¬ x.cps.getD 0 0 < c := fun q => h ((one_iff hx c).2.mpr q)
theorem out_int {g : Heap} {s : Shared} {a b : Int} {t : Nat} {h' : Heap} {tk' : Nat} {L' : Addr} {m' : Str → Option Value} {all : List (Addr × Obj)} (F : Fr g L' h' m') (N : News g L' h' all) (e : a = b) :
    Out g s (fun v post => ∃ t, v = .int b t ∧ post = []) (.int a t) { s with heap := h', toks := tk' } := Out.intro F N [] (List.forall_mem_nil _) ⟨t, by rw [e], rfl⟩
theorem one_ne (c : Nat) : ((⟨#[c]⟩ : Str) != Str.ofString "") = true :=
  bne_iff_ne.mpr fun h => by
    have e : (1 : Nat) = (Str.ofString "").cps.size := congrArg (fun x : Str => x.cps.size) h
    revert e
    decide
theorem find_digit : ∀ c : Nat, c < 128 → (Txt.find (Str.ofString "0123456789abcdefghijklmnopqrstuvwxyz") (Txt.lower ⟨#[c]⟩)) = digL c := by decide +kernel
theorem z_0 : (Str.ofString "0").cps.getD 0 0 = 48 := by decide
theorem z_9 : (Str.ofString "9").cps.getD 0 0 = 57 := by decide
theorem z_a : (Str.ofString "a").cps.getD 0 0 = 97 := by decide
theorem z_z : (Str.ofString "z").cps.getD 0 0 = 122 := by decide
theorem z_A : (Str.ofString "A").cps.getD 0 0 = 65 := by decide
theorem z_Z : (Str.ofString "Z").cps.getD 0 0 = 90 := by decide
theorem dig_num {c : Nat} (h1 : ¬ c < (Str.ofString "0").cps.getD 0 0) (h2 : ¬ (Str.ofString "9").cps.getD 0 0 < c) : (c : Int) - ((Str.ofString "0").cps.getD 0 0 : Nat) = digV c := by
  rw [z_0] at h1 ⊢; rw [z_9] at h2; unfold digV; rw [if_pos ⟨Nat.not_lt.mp h1, Nat.not_lt.mp h2⟩]; rfl
theorem dig_low {c : Nat} (h1 : ¬ c < (Str.ofString "a").cps.getD 0 0) (h2 : ¬ (Str.ofString "z").cps.getD 0 0 < c) : (c : Int) - ((Str.ofString "a").cps.getD 0 0 : Nat) + 10 = digV c := by
  rw [z_a] at h1 ⊢; rw [z_z] at h2; unfold digV; rw [if_neg (fun h => h1 (Nat.lt_of_le_of_lt h.2 (by decide))), if_pos ⟨Nat.not_lt.mp h1, Nat.not_lt.mp h2⟩]; rfl
theorem dig_up {c : Nat} (h1 : ¬ c < (Str.ofString "A").cps.getD 0 0) (h2 : ¬ (Str.ofString "Z").cps.getD 0 0 < c) : (c : Int) - ((Str.ofString "A").cps.getD 0 0 : Nat) + 10 = digV c := by
  rw [z_A] at h1 ⊢; rw [z_Z] at h2; unfold digV; rw [if_neg (fun h => h1 (Nat.lt_of_le_of_lt h.2 (by decide))), if_neg (fun h => h2 (Nat.lt_of_lt_of_le (by decide) h.1)), if_pos ⟨Nat.not_lt.mp h1, Nat.not_lt.mp h2⟩]; rfl
theorem dig_none {c : Nat} (h1 : c < (Str.ofString "0").cps.getD 0 0 ∨ (Str.ofString "9").cps.getD 0 0 < c) (h2 : c < (Str.ofString "a").cps.getD 0 0 ∨ (Str.ofString "z").cps.getD 0 0 < c) (h3 : c < (Str.ofString "A").cps.getD 0 0 ∨ (Str.ofString "Z").cps.getD 0 0 < c) : (99 : Int) = digV c := by
  rw [z_0, z_9] at h1; rw [z_a, z_z] at h2; rw [z_A, z_Z] at h3; unfold digV
  rw [if_neg (fun h => h1.elim (Nat.not_lt.mpr h.1) (Nat.not_lt.mpr h.2)), if_neg (fun h => h2.elim (Nat.not_lt.mpr h.1) (Nat.not_lt.mpr h.2)), if_neg (fun h => h3.elim (Nat.not_lt.mpr h.1) (Nat.not_lt.mpr h.2))]
set_option maxRecDepth 100000 in
set_option maxHeartbeats 1000000 in
theorem digit_value_ok (w : World) (c t : Nat) (hc : c < 128) : CallsOk w 600 [.str ⟨#[c]⟩ t] 3 200 [] (fun _ => True) (fun v post => ∃ t, v = .int (digV c) t ∧ post = []) := by
  unfold CallsOk
  have tg9 : Mine.Tg 70242 := tgI 70242
  k_fill
  intro p loose mean mg mb dp un gd cn cs a ccd cl outer A₀ base h₀ L m rest s Q E B F X N hoff T hk hd hu hy hret
  refine wpAny_call ?_
  k_dflt (refine' code_defW ?y0k1 ?y0k2 ?y0k3 ?y0k4 ?y0kO ?y0k5 ?y0kA ?y0kF ?y0kK ?y0k6 ?y0k7 ?y0k8 ?y0k9 ?y0kB ?y0kR ?_ ?y0c2 ?y0c3 ?y0c4 ?y0c5; (case y0kA => exact rfl); (case y0kF => exact rfl); (case y0kK => assumption); (case y0k1 => k_asm); (case y0k2 => k_asm); (case y0k3 => k_asm); (case y0k4 => k_asm); (case y0kO => assumption); (case y0k5 => k_asm); (case y0k6 => k_is); (case y0k7 => k_is); (case y0k8 => ktr_room); (case y0k9 => first | exact BindsTo.of_eq rfl | exact binds_K (by k_in) rfl (by k_is) rfl rfl rfl); (case y0c5 => decide); (case y0kB => exact locs rfl); (case y0kR => assumption); (case y0c2 => exact rfl); (case y0c3 => exact rfl); (case y0c4 => exact rfl); k_whole; intro g1 L1 h1 FG1 F1 N1 B1 X1 T1 G1; (try k_lift B1); (first | ((refine name_env2 ?_); intro tkE aA eE qk xE) | ((try dsimp only); (try k_fold); (try ((refine name_env ?_); intro aA eE xE)))))
  k_steps
  all_goals ((try dsimp only); refine out_int (by assumption) (by assumption) ?_; clear hret B F X N T)
  all_goals (repeat (first
    | (rename (¬ _ < (_ : List Nat)) => q; (first | have q2 := nlt_one q (by decide) | have q2 := ngt_one q (by decide)); clear q; revert q2)
    | (rename (_ < (_ : List Nat)) => q; (first | have q2 := lt_one q (by decide) | have q2 := gt_one q (by decide)); clear q; revert q2)))
  all_goals intros
  all_goals first | exact dig_num (by with_reducible assumption) (by with_reducible assumption) | exact dig_low (by with_reducible assumption) (by with_reducible assumption) | exact dig_up (by with_reducible assumption) (by with_reducible assumption) | exact dig_none (by first | exact .inl (by with_reducible assumption) | exact .inr (by with_reducible assumption)) (by first | exact .inl (by with_reducible assumption) | exact .inr (by with_reducible assumption)) (by first | exact .inl (by with_reducible assumption) | exact .inr (by with_reducible assumption))
set_option maxRecDepth 100000 in
set_option maxHeartbeats 1000000 in
theorem law_digit_ok (w : World) (c t : Nat) (hc : c < 128) : CallsOk w 695 [.str ⟨#[c]⟩ t] 3 200 [] (fun _ => True) (fun v post => ∃ t, v = .int (digL c) t ∧ post = []) := by
  unfold CallsOk
  have tg9 : Mine.Tg 46328 := tgI 46328
  k_fill
  intro p loose mean mg mb dp un gd cn cs a ccd cl outer A₀ base h₀ L m rest s Q E B F X N hoff T hk hd hu hy hret
  refine wpAny_call ?_
  k_dflt (refine' code_defW ?y1k1 ?y1k2 ?y1k3 ?y1k4 ?y1kO ?y1k5 ?y1kA ?y1kF ?y1kK ?y1k6 ?y1k7 ?y1k8 ?y1k9 ?y1kB ?y1kR ?_ ?y1c2 ?y1c3 ?y1c4 ?y1c5; (case y1kA => exact rfl); (case y1kF => exact rfl); (case y1kK => assumption); (case y1k1 => k_asm); (case y1k2 => k_asm); (case y1k3 => k_asm); (case y1k4 => k_asm); (case y1kO => assumption); (case y1k5 => k_asm); (case y1k6 => k_is); (case y1k7 => k_is); (case y1k8 => ktr_room); (case y1k9 => first | exact BindsTo.of_eq rfl | exact binds_K (by k_in) rfl (by k_is) rfl rfl rfl); (case y1c5 => decide); (case y1kB => exact locs rfl); (case y1kR => assumption); (case y1c2 => exact rfl); (case y1c3 => exact rfl); (case y1c4 => exact rfl); k_whole; intro g1 L1 h1 FG1 F1 N1 B1 X1 T1 G1; (try k_lift B1); (first | ((refine name_env2 ?_); intro tkE aA eE qk xE) | ((try dsimp only); (try k_fold); (try ((refine name_env ?_); intro aA eE xE)))))
  k_with "call builtin:str.lower" => guard_hyp tg9 : Mine.Tg 46328; (dsimp only; refine SCL.lower (x := ⟨#[c]⟩) (by show 1 ≤ _; decide) ?_; intro _; dsimp only)
  k_steps
  · exact out_int (by assumption) (by assumption) (find_digit c hc)
  all_goals (rename (_ = false) => q; exact absurd q (by rw [one_ne c]; decide))

end

section
-- part Strtoi
noncomputable def minusB (x : Str) : Bool := Txt.slice x none (some 1) == Str.ofString "-"
noncomputable def signed (x : Str) : Bool := [Str.ofString "-", Str.ofString "+"].any fun y => y == Txt.slice x none (some 1)
noncomputable def bare1 (x : Str) : Str := if signed x = true then Txt.slice x (some 1) none else x
noncomputable def hexed (d : Str) : Bool := [Str.ofString "0x", Str.ofString "0X"].any fun y => y == Txt.slice d none (some 2)
noncomputable def sixt (b : Int) : Bool := ([16, 0] : List Int).any fun y => y == b
noncomputable def zed (d : Str) : Bool := Txt.slice d none (some 1) == Str.ofString "0"
noncomputable def bare2 (d : Str) (b : Int) : Str := if hexed d = true ∧ sixt b = true then Txt.slice d (some 2) none else d
noncomputable def base2 (d : Str) (b : Int) : Int := if hexed d = true ∧ sixt b = true then 16 else if b = 0 then (if zed d = true then 8 else 10) else b
section
variable {d : Str} {b : Int}
theorem b2_hex (h1 : hexed d = true) (h2 : sixt b = true) : bare2 d b = Txt.slice d (some 2) none ∧ base2 d b = 16 := ⟨if_pos ⟨h1, h2⟩, if_pos ⟨h1, h2⟩⟩
theorem b2_n (h : hexed d = false ∨ sixt b = false) : ¬ (hexed d = true ∧ sixt b = true) := fun q => by
  rcases h with h | h
  · rw [h] at q; exact absurd q.1 (by decide)
  · rw [h] at q; exact absurd q.2 (by decide)
theorem b2_8 (h : hexed d = false ∨ sixt b = false) (hb : b = 0) (hz : zed d = true) : bare2 d b = d ∧ base2 d b = 8 := ⟨if_neg (b2_n h), by rw [base2, if_neg (b2_n h), if_pos hb, if_pos hz]⟩
theorem b2_10 (h : hexed d = false ∨ sixt b = false) (hb : b = 0) (hz : zed d = false) : bare2 d b = d ∧ base2 d b = 10 := ⟨if_neg (b2_n h), by rw [base2, if_neg (b2_n h), if_pos hb, hz]; rfl⟩
theorem b2_b (h : hexed d = false ∨ sixt b = false) (hb : b ≠ 0) : bare2 d b = d ∧ base2 d b = b := ⟨if_neg (b2_n h), by rw [base2, if_neg (b2_n h), if_neg hb]⟩
theorem bare1_le (x : Str) : (bare1 x).length ≤ x.length := by
  unfold bare1
  split
  · exact Txt.slice_le _ _ _
  · exact Nat.le_refl _
theorem bare2_le (x : Str) (b : Int) : (bare2 x b).length ≤ x.length := by
  unfold bare2
  split
  · exact Txt.slice_le _ _ _
  · exact Nat.le_refl _
theorem base2_bnd (d : Str) {b : Int} (hb : 0 ≤ b ∧ b ≤ 36) : 0 ≤ base2 d b ∧ base2 d b ≤ 36 := by
  unfold base2
  (repeat' split) <;> (first | exact om272 | exact om273 | exact om274 | with_reducible assumption)
end
theorem slice_mem {x : Str} {l u : Option Int} {c : Nat} (h : c ∈ (Txt.slice x l u).cps.toList) : c ∈ x.cps.toList := by
  unfold Txt.slice at h
  split at h
  · exact h
  · obtain ⟨k, _, hk⟩ := List.mem_filterMap.mp (by simpa using h)
    exact Array.mem_toList_iff.mpr (Array.mem_of_getElem? hk)
theorem bare1_mem {x : Str} {c : Nat} (h : c ∈ (bare1 x).cps.toList) : c ∈ x.cps.toList := by
  unfold bare1 at h
  split at h
  · exact slice_mem h
  · exact h
theorem bare2_mem {x : Str} {b : Int} {c : Nat} (h : c ∈ (bare2 x b).cps.toList) : c ∈ x.cps.toList := by
  unfold bare2 at h
  split at h
  · exact slice_mem h
  · exact h
noncomputable def valOf (ds : List Nat) (b : Int) : Int := ds.foldl (fun v c => v * b + digV c) 0
theorem valOf_snoc (ds : List Nat) (c : Nat) (b : Int) : valOf (ds ++ [c]) b = valOf ds b * b + digV c := by simp [valOf]
/-- what strtoi tells of the signs behind the sign and the 0x -/
noncomputable def figOf (d : Str) (b : Int) (minus : Bool) : Option Int :=
  if d.cps.toList = [] then none else if (∀ c ∈ d.cps.toList, digV c < b) ∧ valOf d.cps.toList b ≤ 2147483647 then some (if minus = true then - valOf d.cps.toList b else valOf d.cps.toList b) else none
noncomputable def strtoiF (x : Str) (b : Int) : Option Int := figOf (bare2 (bare1 x) b) (base2 (bare1 x) b) (minusB x)
noncomputable def OptInt (o : Option Int) (v : Value) : Prop := match o with
  | none => v = .none
  | some n => ∃ t, v = .int n t
theorem figOf_big {d : Str} {b : Int} {m : Bool} {i n : Nat} (hn : d.cps[i]? = some n) (h : b ≤ digV n) : figOf d b m = none := by
  have hm : n ∈ d.cps.toList := Array.mem_toList_iff.mpr (Array.mem_of_getElem? hn)
  unfold figOf
  split
  · rfl
  · rw [if_neg]
    intro q
    have := q.1 n hm
    (exact om275 (by k_asm) (by k_asm))
theorem take_snoc {l : List Nat} {i n : Nat} (h : l[i]? = some n) : l.take (i + 1) = l.take i ++ [n] := by simp [List.take_add_one, h]
theorem empty_text {d : Str} (h : (d == Str.ofString "") = true) : d.cps.toList = [] := by
  rw [eq_of_beq h]; decide
theorem nonempty_text {d : Str} (h : (d == Str.ofString "") = false) : d.cps.toList ≠ [] := fun e => by
  have : d = Str.ofString "" := by
    obtain ⟨⟨l⟩⟩ := d
    have e' : l = [] := e
    subst e'
    decide
  rw [this] at h
  exact absurd h (by decide)
set_option maxRecDepth 100000 in
set_option maxHeartbeats 1000000 in
theorem strtoi_ok (w : World) (x : Str) (t : Nat) (b : Int) (tb : Nat) (hx : x.length ≤ 40) (ha : ∀ c ∈ x.cps.toList, c < 128) (hb : 0 ≤ b ∧ b ≤ 36) : CallsOk w 607 [.str x t, .int b tb] 6 300 [] (fun _ => True) (fun v post => OptInt (strtoiF x b) v ∧ post = []) := by
  unfold CallsOk
  have tg9 : Mine.Tg 90749 := tgI 90749
  k_fill
  intro p loose mean mg mb dp un gd cn cs a ccd cl outer A₀ base h₀ L m rest s Q E B F X N hoff T hk hd hu hy hret
  refine wpAny_call ?_
  k_dflt (refine' code_defW ?y0k1 ?y0k2 ?y0k3 ?y0k4 ?y0kO ?y0k5 ?y0kA ?y0kF ?y0kK ?y0k6 ?y0k7 ?y0k8 ?y0k9 ?y0kB ?y0kR ?_ ?y0c2 ?y0c3 ?y0c4 ?y0c5; (case y0kA => exact rfl); (case y0kF => exact rfl); (case y0kK => assumption); (case y0k1 => k_asm); (case y0k2 => k_asm); (case y0k3 => k_asm); (case y0k4 => k_asm); (case y0kO => assumption); (case y0k5 => k_asm); (case y0k6 => k_is); (case y0k7 => k_is); (case y0k8 => ktr_room); (case y0k9 => first | exact BindsTo.of_eq rfl | exact binds_K (by k_in) rfl (by k_is) rfl rfl rfl); (case y0c5 => decide); (case y0kB => exact locs rfl); (case y0kR => assumption); (case y0c2 => exact rfl); (case y0c3 => exact rfl); (case y0c4 => exact rfl); k_whole; intro g1 L1 h1 FG1 F1 N1 B1 X1 T1 G1; (try k_lift B1); (first | ((refine name_env2 ?_); intro tkE aA eE qk xE) | ((try dsimp only); (try k_fold); (try ((refine name_env ?_); intro aA eE xE)))))
  refine cut1 3 g1 L1 s (fun (t2 : Nat) => [(Str.ofString "text", .str x t), (Str.ofString "base", .int b tb), (Str.ofString "minus", .bool (minusB x)), (Str.ofString "digits", .str (bare1 x) t2)]) (fun t2 => []) (fun t2 => True) ?_ ?_
  · refine (?_ : wpAny _ _ (execs (_ :: _) _) _ _ _)
    k_steps
    · have e : bare1 x = Txt.slice x (some 1) none := if_pos (by assumption)
      rw [e]
      refine' At.intro (by assumption) (by assumption) _ (by kqd_sub) ?_ trivial
      all_goals tb_start
    · have e : bare1 x = x := if_neg (by rw [show signed x = false from by assumption]; decide)
      rw [e]
      refine' At.intro (by assumption) (by assumption) _ (by kqd_sub) ?_ trivial
      all_goals tb_start
  · intro t2 m2 h2 tk2 F2 N2 _
    have hl : (bare1 x).length ≤ 40 := Nat.le_trans (bare1_le x) hx
    have hal : ∀ c ∈ (bare1 x).cps.toList, c < 128 := fun c h => ha c (bare1_mem h)
    generalize ed : bare1 x = d at hal hl F2 ⊢
    dsimp only [List.drop] at *
    refine cut1 2 g1 L1 s (fun (t3 : Nat × Nat) => [(Str.ofString "text", .str x t), (Str.ofString "base", .int (base2 d b) t3.1), (Str.ofString "minus", .bool (minusB x)), (Str.ofString "digits", .str (bare2 d b) t3.2)]) (fun t3 => []) (fun t3 => True) ?_ ?_
    · refine (?_ : wpAny _ _ (execs (_ :: _) _) _ _ _)
      k_steps
      all_goals (
        have e : bare2 d b = _ ∧ base2 d b = _ := (by first
          | exact b2_hex (by assumption) (by assumption)
          | exact b2_8 (by first | exact Or.inl (by assumption) | exact Or.inr (by assumption)) (by assumption) (by assumption)
          | exact b2_10 (by first | exact Or.inl (by assumption) | exact Or.inr (by assumption)) (by assumption) (by assumption)
          | exact b2_b (by first | exact Or.inl (by assumption) | exact Or.inr (by assumption)) (by assumption))
        rw [e.1, e.2]
        refine' At.intro (by assumption) (by assumption) (_, _) (by kqd_sub) ?_ trivial
        all_goals tb_start)
    · intro t3 m3 h3 tk3 F3 N3 _
      have hl2 : (bare2 d b).length ≤ 40 := Nat.le_trans (bare2_le d b) hl
      have hb2 := base2_bnd d hb
      have ha2 : ∀ c ∈ (bare2 d b).cps.toList, c < 128 := fun c h => hal c (bare2_mem h)
      generalize ed2 : bare2 d b = d2 at hl2 ha2 F3 ⊢
      generalize eb2 : base2 d b = b2 at hb2 F3 ⊢
      have eF : strtoiF x b = figOf d2 b2 (minusB x) := by rw [strtoiF, ed, ed2, eb2]
      clear F2 N2 m2 t2
      dsimp only [List.drop] at *
      k_with "pyIter str" => guard_hyp tg9 : Mine.Tg 90749; refine Halt.out ?_
      k_steps
      · have e : figOf d2 b2 (minusB x) = none := if_pos (empty_text (by assumption))
        refine Out.intro (by assumption) (by assumption) [] (List.forall_mem_nil _) ⟨?_, rfl⟩
        rw [eF, e]
        rfl
      · unfold Halt
        refine' for_text (xt := d2) (fun _ => []) (fun c : Int × Nat => [(Str.ofString "value", .int c.1 c.2)]) [] (fun i c => c.1 = valOf (d2.cps.toList.take i) b2 ∧ ∀ q ∈ d2.cps.toList.take i, digV q < b2) (0, ?ct) (by rfl) (by assumption) (News.nil) ?hk1 ?hp1 ?turn1 ?done1
        case hk1 => tb_start
        case hp1 => exact ⟨rfl, fun _ h => by simp at h⟩
        case turn1 =>
          intro c i n tn u h4 tk4 own hi hn hoff4 ha4 hP F4 N4
          have hn8 : n < 128 := ha2 n (Array.mem_toList_iff.mpr (Array.mem_of_getElem? hn))
          k_with "call ref" => guard_hyp tg9 : Mine.Tg 90749; ((with_reducible show wpAny _ _ (call (Value.ref 600) [Value.str _ _]) _ _ _); (((k_dflt (refine use0 (digit_value_ok w _ _ (by assumption)) (by k_asm) (by k_asm) (by k_asm) (by k_asm) (by k_asm) (by first | exact rfl | assumption) (by ktr_room) (by ktr_units) (by first | exact True.intro | assumption) ?_)); intro v9 p9 h9 tk9 F9 N9 O9 P9)); obtain ⟨t9, e9, e10⟩ := P9; subst e9 e10; (try dsimp only [List.nil_append] at N9))
          k_steps
          · have e : figOf d2 b2 (minusB x) = none := figOf_big hn (by assumption)
            refine turn_ret (Out.intro (by assumption) (by assumption) [] (List.forall_mem_nil _) ⟨?_, rfl⟩)
            rw [eF, e]
            rfl
          · refine' turn_next (_, _) (by assumption) (by assumption) (List.forall_mem_nil _) (by kqd_sub) rfl ?hk2 (by (intro z; (first | intro h1 h2 h3 | intro h2 h3); (refine Eq.symm ?_); (repeat (first | with_reducible rfl | refine relI (by first | with_reducible assumption | exact relN h3 (by with_unfolding_all rfl) | exact relP h2 (by with_unfolding_all rfl)) ?_ | refine relK (by first | with_reducible assumption | exact List.forall_mem_nil _ | exact relM h2 rfl) ?_ | exact rfl)); (refine Eq.symm ?_); (repeat (first | with_reducible rfl | exact relS h3 | refine relI (by first | with_reducible assumption | exact relN h3 (by with_unfolding_all rfl) | exact relP h2 (by with_unfolding_all rfl)) ?_ | refine relK (by first | with_reducible assumption | exact List.forall_mem_nil _ | exact relM h2 rfl) ?_ | exact rfl)); done)) ?hp2
            case hk2 => tb_start
            case hp2 =>
              have e := take_snoc (l := d2.cps.toList) (by simpa using hn)
              rw [e]
              refine ⟨?_, ?_⟩
              · rw [valOf_snoc, ← hP.1]
              · intro q hq
                rcases List.mem_append.mp hq with hq | hq
                · exact hP.2 q hq
                · rw [List.mem_singleton.mp hq]
                  (exact om244 (by k_asm))
        case done1 =>
          intro c u h4 tk4 hP F4 N4
          rw [show d2.cps.toList.take d2.cps.size = d2.cps.toList from List.take_of_length_le (by simp)] at hP
          have hne := nonempty_text (d := d2) (by assumption)
          k_steps
          · have e : figOf d2 b2 (minusB x) = none := by
              rw [figOf, if_neg hne, if_neg]
              intro q
              have := q.2
              (exact om245 (by k_asm) (by k_asm) (by k_asm))
            refine Out.intro (by assumption) (by assumption) [] (List.forall_mem_nil _) ⟨?_, rfl⟩
            rw [eF, e]
            rfl
          · have e : figOf d2 b2 (minusB x) = some (- c.1) := by
              rw [figOf, if_neg hne, if_pos ⟨hP.2, by (exact om246 (by k_asm) (by k_asm))⟩, if_pos (by assumption), hP.1]
            refine Out.intro (by assumption) (by assumption) [] (List.forall_mem_nil _) ⟨?_, rfl⟩
            rw [eF, e]
            exact ⟨_, rfl⟩
          · have e : figOf d2 b2 (minusB x) = some c.1 := by
              rw [figOf, if_neg hne, if_pos ⟨hP.2, by (exact om246 (by k_asm) (by k_asm))⟩, if_neg (by rw [show minusB x = false from by assumption]; decide), hP.1]
            refine Out.intro (by assumption) (by assumption) [] (List.forall_mem_nil _) ⟨?_, rfl⟩
            rw [eF, e]
            exact ⟨_, rfl⟩

end

section
-- part Texts
open PySem.Unicode in
theorem lowerAt_ascii {s : Array Nat} {i c : Nat} (h : s[i]? = some c) (hc : c < 128) : lowerAt s i = lowerOf c := by
  unfold lowerAt
  rw [h]
  have : (c == 0x3A3) = false := by
    rw [beq_eq_false_iff_ne]; (exact om134 (by k_asm))
  simp [this]
noncomputable def low (c : Nat) : Nat := if 65 ≤ c ∧ c ≤ 90 then c + 32 else c
theorem lowerOf_ascii : ∀ c : Nat, c < 128 → Unicode.lowerOf c = [low c] := by decide +kernel
theorem lower_cps (x : Str) (ha : ∀ c ∈ x.cps.toList, c < 128) : (Txt.lower x).cps.toList = x.cps.toList.map low := by
  obtain ⟨⟨l⟩⟩ := x
  show (((List.toArray l).mapIdx fun i c => (Unicode.lowerAt (List.toArray l) i).toArray).flatten).toList = l.map low
  have e : ((List.toArray l).mapIdx fun i c => (Unicode.lowerAt (List.toArray l) i).toArray) = (l.map fun c => #[low c]).toArray := by
    apply Array.ext
    · simp
    · intro i h1 h2
      have hi : i < l.length := by simpa using h1
      have hm : l[i] ∈ l := List.getElem_mem hi
      simp only [Array.getElem_mapIdx, List.getElem_toArray, List.getElem_map]
      rw [lowerAt_ascii (c := l[i]) (by simp [hi]) (ha _ hm), lowerOf_ascii _ (ha _ hm)]
  rw [e]
  clear e ha
  induction l with
  | nil => rfl
  | cons c r ih =>
    simp only [List.map_cons]
    rw [← ih]
    simp
theorem str_eq {x y : Str} (h : x.cps.toList = y.cps.toList) : x = y := by
  obtain ⟨⟨l⟩⟩ := x
  obtain ⟨⟨r⟩⟩ := y
  have : l = r := h
  rw [this]
theorem beq_iff {x y : Str} : (x == y) = true ↔ x.cps.toList = y.cps.toList := ⟨fun h => by rw [eq_of_beq h], fun h => beq_iff_eq.mpr (str_eq h)⟩
theorem any_two {a b y : Str} : ([a, b].any fun z => z == y) = true ↔ y = a ∨ y = b := by
  rw [List.any_cons, List.any_cons, List.any_nil, Bool.or_false, Bool.or_eq_true, beq_iff_eq, beq_iff_eq]
  exact ⟨fun h => h.imp Eq.symm Eq.symm, fun h => h.imp Eq.symm Eq.symm⟩
theorem low_120 {c : Nat} (hc : c < 128) : low c = 120 ↔ c = 120 ∨ c = 88 := by
  unfold low
  split <;> (first | exact om135 (by k_asm) | exact om136 (by k_asm))
theorem low_48 {c : Nat} (hc : c < 128) : low c = 48 ↔ c = 48 := by
  unfold low
  split <;> (first | exact om137 (by k_asm) | exact om138)
theorem lower_hex {y : Str} (ha : ∀ c ∈ y.cps.toList, c < 128) : (Txt.lower y == Str.ofString "0x") = ([Str.ofString "0x", Str.ofString "0X"].any fun z => z == y) := by
  rw [Bool.eq_iff_iff, beq_iff, lower_cps y ha, any_two]
  have e1 : (Str.ofString "0x").cps.toList = [48, 120] := by decide
  have e2 : (Str.ofString "0X").cps.toList = [48, 88] := by decide
  rw [e1]
  constructor
  · intro h
    obtain ⟨⟨l⟩⟩ := y
    match l, h, ha with
    | [], h, _ => cases (h : ([] : List Nat) = [48, 120])
    | [a], h, _ => exact absurd (congrArg List.length h) (by simp)
    | a :: b :: c :: r, h, _ => simp at h
    | [a, b], h, ha =>
      have h' : [low a, low b] = [48, 120] := h
      simp only [List.cons.injEq, and_true] at h'
      have a8 := ha a (by simp)
      have b8 := ha b (by simp)
      have ea := (low_48 a8).mp h'.1
      rcases (low_120 b8).mp h'.2 with eb | eb
      · left; exact str_eq (by rw [e1, ea, eb])
      · right; exact str_eq (by rw [e2, ea, eb])
  · rintro (rfl | rfl)
    · rw [e1]; decide
    · rw [e2]; decide
theorem slice_to_nn {x : Str} (n : Nat) : (Txt.slice x none (some (n : Int))).cps.toList = x.cps.toList.take n := by
  by_cases h : n ≤ x.length
  · have := eq_of_beq (slice_closes_toL (x := x) (j := (n : Int)) (by (exact om128)) (by (exact om139 (by k_asm))))
    rw [this]
    simp
  · have hn : x.length < n := by (exact om140 (by k_asm))
    have : Txt.slice x none (some (n : Int)) = x := by
      unfold Txt.slice
      rw [if_pos]
      have : (Builtin.Str.strSliceIndices none (some (n : Int)) 1 x.length).length = x.length := by
        have e1 : (if (n : Int) < 0 then (n : Int) + (x.length : Int) else (n : Int)) = n := if_neg (by (exact om55))
        simp [Builtin.Str.strSliceIndices, sliceRange, e1]
        (repeat' split) <;> (first | exact om141 (by k_asm) | exact om142 (by k_asm) (by k_asm))
      simp [this]
    rw [this, List.take_of_length_le]
    have : x.cps.toList.length = x.length := by simp [Str.length]
    (exact om143 (by k_asm) (by k_asm))
theorem slice_from_nn {x : Str} (n : Nat) : (Txt.slice x (some (n : Int)) none).cps.toList = x.cps.toList.drop n := by
  by_cases h : n ≤ x.length
  · rw [slice_from_eq (x := x) (i := (n : Int)) (b := x.length) (by (exact om128)) (by (exact om139 (by k_asm))) rfl]
    have : x.cps.toList.length = x.length := by simp [Str.length]
    simp only [Int.toNat_natCast]
    rw [List.take_of_length_le]
    rw [List.length_drop]
    (exact om144 (by k_asm))
  · rw [slice_beyond (by (exact om145 (by k_asm)))]
    rw [List.drop_eq_nil_of_le]
    · rfl
    · have : x.cps.toList.length = x.length := by simp [Str.length]
      (exact om143 (by k_asm) (by k_asm))

end

section
-- part Read
noncomputable def sideOf (x : Str) : Int := if minusB x = true then -1 else 1
theorem signed_ne {x : Str} (h : signed x = true) : 0 < x.length := by
  have h2 := any_two.mp h
  have e := slice_to_nn (x := x) 1
  have hl : x.cps.toList.length = x.length := by simp [Str.length]
  cases hx : x.cps.toList with
  | nil =>
    rw [hx] at e
    exfalso
    rcases h2 with h2 | h2
    · rw [show ((1 : Nat) : Int) = 1 from rfl, h2] at e
      revert e; decide
    · rw [show ((1 : Nat) : Int) = 1 from rfl, h2] at e
      revert e; decide
  | cons c r => rw [← hl, hx]; simp
theorem item0 {x : Str} (h : 0 < x.length) : (Txt.item x 0 == Str.ofString "-") = minusB x := by
  have e : Txt.item x 0 = Txt.slice x none (some 1) := by
    apply str_eq
    have e := slice_to_nn (x := x) 1
    rw [show ((1 : Nat) : Int) = 1 from rfl] at e
    rw [e]
    obtain ⟨⟨l⟩⟩ := x
    match l, h with
    | c :: r, _ => simp [Txt.item, Txt.charAt, seqIndex?, Str.length]
  rw [e]; rfl
theorem sixt_comm (b : Int) : (([0, 16] : List Int).any fun y => y == b) = sixt b := by
  unfold sixt
  simp [Bool.or_comm]
theorem hexed_lower {d : Str} (ha : ∀ c ∈ d.cps.toList, c < 128) : (Txt.lower (Txt.slice d none (some 2)) == Str.ofString "0x") = hexed d := lower_hex fun c h => ha c (slice_mem h)
theorem r_hex {d : Str} {b : Int} (ha : ∀ c ∈ d.cps.toList, c < 128) (h1 : (Txt.lower (Txt.slice d none (some 2)) == Str.ofString "0x") = true) (h2 : (([0, 16] : List Int).any fun y => y == b) = true) : bare2 d b = Txt.slice d (some 2) none ∧ base2 d b = 16 := b2_hex ((hexed_lower ha).symm.trans h1) ((sixt_comm b).symm.trans h2)
theorem r_n1 {d : Str} {b : Int} (ha : ∀ c ∈ d.cps.toList, c < 128) (h1 : (Txt.lower (Txt.slice d none (some 2)) == Str.ofString "0x") = false) : hexed d = false ∨ sixt b = false := .inl ((hexed_lower ha).symm.trans h1)
theorem r_n2 {d : Str} {b : Int} (h2 : (([0, 16] : List Int).any fun y => y == b) = false) : hexed d = false ∨ sixt b = false := .inr ((sixt_comm b).symm.trans h2)
theorem r_8 {d : Str} {b : Int} (h : hexed d = false ∨ sixt b = false) (hb : b = 0) (hz : (Txt.slice d none (some 1) == Str.ofString "0") = true) : bare2 d b = d ∧ base2 d b = 8 := b2_8 h hb hz
theorem r_10 {d : Str} {b : Int} (h : hexed d = false ∨ sixt b = false) (hb : b = 0) (hz : (Txt.slice d none (some 1) == Str.ofString "0") = false) : bare2 d b = d ∧ base2 d b = 10 := b2_10 h hb hz
theorem digV_nonneg (c : Nat) : 0 ≤ digV c := by
  unfold digV
  (repeat' split) <;> (first | exact om236 (by k_asm) | exact om237 (by k_asm) | exact om238 (by k_asm) | exact om239)
theorem digL_neg {c : Nat} {b : Int} (hb : b ≤ 36) (h : digL c < 0) : b ≤ digV c := by
  have := digV_nonneg c
  unfold digL at h
  split at h <;> (first | exact om240 (by k_asm) (by k_asm) | exact om241 (by k_asm) (by k_asm))
theorem digL_fit {c : Nat} (h : ¬ digL c < 0) : digL c = digV c := by
  unfold digL at *
  split at h
  · (exact om242 (by k_asm))
  · rename_i q
    rw [if_neg q]
set_option maxRecDepth 100000 in
set_option maxHeartbeats 1000000 in
theorem law_read_ok (w : World) (x : Str) (t : Nat) (b : Int) (tb : Nat) (hx : x.length ≤ 40) (ha : ∀ c ∈ x.cps.toList, c < 128) (hb : 0 ≤ b ∧ b ≤ 36) : CallsOk w 702 [.str x t, .int b tb] 6 300 [] (fun _ => True) (fun v post => OptInt (strtoiF x b) v ∧ post = []) := by
  unfold CallsOk
  have tg9 : Mine.Tg 53486 := tgI 53486
  k_fill
  intro p loose mean mg mb dp un gd cn cs a ccd cl outer A₀ base h₀ L m rest s Q E B F X N hoff T hk hd hu hy hret
  refine wpAny_call ?_
  k_dflt (refine' code_defW ?y0k1 ?y0k2 ?y0k3 ?y0k4 ?y0kO ?y0k5 ?y0kA ?y0kF ?y0kK ?y0k6 ?y0k7 ?y0k8 ?y0k9 ?y0kB ?y0kR ?_ ?y0c2 ?y0c3 ?y0c4 ?y0c5; (case y0kA => exact rfl); (case y0kF => exact rfl); (case y0kK => assumption); (case y0k1 => k_asm); (case y0k2 => k_asm); (case y0k3 => k_asm); (case y0k4 => k_asm); (case y0kO => assumption); (case y0k5 => k_asm); (case y0k6 => k_is); (case y0k7 => k_is); (case y0k8 => ktr_room); (case y0k9 => first | exact BindsTo.of_eq rfl | exact binds_K (by k_in) rfl (by k_is) rfl rfl rfl); (case y0c5 => decide); (case y0kB => exact locs rfl); (case y0kR => assumption); (case y0c2 => exact rfl); (case y0c3 => exact rfl); (case y0c4 => exact rfl); k_whole; intro g1 L1 h1 FG1 F1 N1 B1 X1 T1 G1; (try k_lift B1); (first | ((refine name_env2 ?_); intro tkE aA eE qk xE) | ((try dsimp only); (try k_fold); (try ((refine name_env ?_); intro aA eE xE)))))
  refine cut1 3 g1 L1 s (fun (t2 : Nat × Nat) => [(Str.ofString "base", .int b tb), (Str.ofString "side", .int (sideOf x) t2.1), (Str.ofString "words", .str (bare1 x) t2.2)]) (fun t2 => []) (fun t2 => True) ?_ ?_
  · refine (?_ : wpAny _ _ (execs (_ :: _) _) _ _ _)
    cases hs : signed x with
    | true =>
      have hpos : 0 < x.length := signed_ne hs
      have hpos2 : 0 < x.cps.size := hpos
      have e1 : bare1 x = Txt.slice x (some 1) none := if_pos hs
      k_steps
      · have e2 : sideOf x = -1 := if_pos ((item0 hpos).symm.trans (by assumption))
        rw [e1, e2]
        refine' At.intro (by assumption) (by assumption) (_, _) (by kqd_sub) ?_ trivial
        all_goals tb_start
      · have e2 : sideOf x = 1 := if_neg (by rw [(item0 hpos).symm.trans (by assumption)]; decide)
        rw [e1, e2]
        refine' At.intro (by assumption) (by assumption) (_, _) (by kqd_sub) ?_ trivial
        all_goals tb_start
      · exact absurd (hs.symm.trans (show signed x = false by assumption)) (by decide)
    | false =>
      have e1 : bare1 x = x := if_neg (by rw [hs]; decide)
      k_steps
      · exact absurd (hs.symm.trans (show signed x = true by assumption)) (by decide)
      · have e2 : sideOf x = 1 := if_neg fun q => by
          have z : signed x = true := by
            unfold signed
            rw [any_two]
            exact .inl (eq_of_beq q)
          rw [hs] at z
          exact absurd z (by decide)
        rw [e1, e2]
        refine' At.intro (by assumption) (by assumption) (_, _) (by kqd_sub) ?_ trivial
        all_goals tb_start
  · intro t2 m2 h2 tk2 F2 N2 _
    have hl : (bare1 x).length ≤ 40 := Nat.le_trans (bare1_le x) hx
    have hal : ∀ c ∈ (bare1 x).cps.toList, c < 128 := fun c h => ha c (bare1_mem h)
    generalize ed : bare1 x = d at hal hl F2 ⊢
    dsimp only [List.drop] at *
    refine cut1 2 g1 L1 s (fun (t3 : Nat × Nat) => [(Str.ofString "base", .int (base2 d b) t3.1), (Str.ofString "side", .int (sideOf x) t2.1), (Str.ofString "words", .str (bare2 d b) t3.2)]) (fun t3 => []) (fun t3 => True) ?_ ?_
    · refine (?_ : wpAny _ _ (execs (_ :: _) _) _ _ _)
      k_with "call builtin:str.lower" => guard_hyp tg9 : Mine.Tg 53486; (dsimp only; refine SCL.lower (by have := Txt.slice_le d none (some 2); (exact om243 (by k_asm) (by k_asm))) ?_; intro _; dsimp only)
      k_steps
      all_goals (
        have e : bare2 d b = _ ∧ base2 d b = _ := (by first
          | exact r_hex hal (by with_reducible assumption) (by with_reducible assumption)
          | exact r_8 (by first | exact r_n1 hal (by with_reducible assumption) | exact r_n2 (by with_reducible assumption)) (by with_reducible assumption) (by with_reducible assumption)
          | exact r_10 (by first | exact r_n1 hal (by with_reducible assumption) | exact r_n2 (by with_reducible assumption)) (by with_reducible assumption) (by with_reducible assumption)
          | exact b2_b (by first | exact r_n1 hal (by with_reducible assumption) | exact r_n2 (by with_reducible assumption)) (by with_reducible assumption))
        rw [e.1, e.2]
        refine' At.intro (by assumption) (by assumption) (_, _) (by kqd_sub) ?_ trivial
        all_goals tb_start)
    · intro t3 m3 h3 tk3 F3 N3 _
      have hl2 : (bare2 d b).length ≤ 40 := Nat.le_trans (bare2_le d b) hl
      have hb2 := base2_bnd d hb
      have ha2 : ∀ c ∈ (bare2 d b).cps.toList, c < 128 := fun c h => hal c (bare2_mem h)
      generalize ed2 : bare2 d b = d2 at hl2 ha2 F3 ⊢
      generalize eb2 : base2 d b = b2 at hb2 F3 ⊢
      have eF : strtoiF x b = figOf d2 b2 (minusB x) := by rw [strtoiF, ed, ed2, eb2]
      clear F2 N2 m2
      dsimp only [List.drop] at *
      k_with "pyIter str" => guard_hyp tg9 : Mine.Tg 53486; refine Halt.out ?_
      k_steps
      unfold Halt
      refine' for_text (xt := d2) (fun _ => []) (fun c : Int × Nat => [(Str.ofString "figure", .int c.1 c.2)]) [] (fun i c => c.1 = valOf (d2.cps.toList.take i) b2 ∧ ∀ q ∈ d2.cps.toList.take i, digV q < b2) (0, ?ct) (by rfl) (by assumption) (News.nil) ?hk1 ?hp1 ?turn1 ?done1
      case hk1 => tb_start
      case hp1 => exact ⟨rfl, fun _ h => by simp at h⟩
      case turn1 =>
        intro c i n tn u h4 tk4 own hi hn hoff4 ha4 hP F4 N4
        have hn8 : n < 128 := ha2 n (Array.mem_toList_iff.mpr (Array.mem_of_getElem? hn))
        k_with "call ref" => guard_hyp tg9 : Mine.Tg 53486; ((with_reducible show wpAny _ _ (call (Value.ref 695) [Value.str _ _]) _ _ _); (((k_dflt (refine use0 (law_digit_ok w _ _ (by assumption)) (by k_asm) (by k_asm) (by k_asm) (by k_asm) (by k_asm) (by first | exact rfl | assumption) (by ktr_room) (by ktr_units) (by first | exact True.intro | assumption) ?_)); intro v9 p9 h9 tk9 F9 N9 O9 P9)); obtain ⟨t9, e9, e10⟩ := P9; subst e9 e10; (try dsimp only [List.nil_append] at N9))
        k_steps
        · have e : figOf d2 b2 (minusB x) = none := figOf_big hn (digL_neg hb2.2 (by assumption))
          refine turn_ret (Out.intro (by assumption) (by assumption) [] (List.forall_mem_nil _) ⟨?_, rfl⟩)
          rw [eF, e]
          rfl
        · have q : ¬ digL n < 0 := by with_reducible assumption
          have e : figOf d2 b2 (minusB x) = none := figOf_big hn (by rw [← digL_fit q]; assumption)
          refine turn_ret (Out.intro (by assumption) (by assumption) [] (List.forall_mem_nil _) ⟨?_, rfl⟩)
          rw [eF, e]
          rfl
        · have q : ¬ digL n < 0 := by with_reducible assumption
          have q2 : ¬ b2 ≤ digL n := by with_reducible assumption
          refine' turn_next (_, _) (by assumption) (by assumption) (List.forall_mem_nil _) (by kqd_sub) rfl ?hk2 (by (intro z; (first | intro h1 h2 h3 | intro h2 h3); (refine Eq.symm ?_); (repeat (first | with_reducible rfl | refine relI (by first | with_reducible assumption | exact relN h3 (by with_unfolding_all rfl) | exact relP h2 (by with_unfolding_all rfl)) ?_ | refine relK (by first | with_reducible assumption | exact List.forall_mem_nil _ | exact relM h2 rfl) ?_ | exact rfl)); (refine Eq.symm ?_); (repeat (first | with_reducible rfl | exact relS h3 | refine relI (by first | with_reducible assumption | exact relN h3 (by with_unfolding_all rfl) | exact relP h2 (by with_unfolding_all rfl)) ?_ | refine relK (by first | with_reducible assumption | exact List.forall_mem_nil _ | exact relM h2 rfl) ?_ | exact rfl)); done)) ?hp2
          case hk2 => tb_start
          case hp2 =>
            have e := take_snoc (l := d2.cps.toList) (by simpa using hn)
            rw [e]
            rw [digL_fit q] at q2 ⊢
            refine ⟨?_, ?_⟩
            · rw [valOf_snoc, ← hP.1]
            · intro z hz
              rcases List.mem_append.mp hz with hz | hz
              · exact hP.2 z hz
              · rw [List.mem_singleton.mp hz]
                (exact om244 (by k_asm))
      case done1 =>
        intro c u h4 tk4 hP F4 N4
        rw [show d2.cps.toList.take d2.cps.size = d2.cps.toList from List.take_of_length_le (by simp)] at hP
        have hsd : (sideOf x = -1 ∧ minusB x = true) ∨ (sideOf x = 1 ∧ minusB x = false) := by
          unfold sideOf
          cases minusB x <;> simp
        k_steps
        all_goals first
          | (have e : figOf d2 b2 (minusB x) = none := if_pos (empty_text (by with_reducible assumption))
             refine Out.intro (by assumption) (by assumption) [] (List.forall_mem_nil _) ⟨?_, rfl⟩
             rw [eF, e]
             rfl)
          | (have hne := nonempty_text (d := d2) (by with_reducible assumption)
             have hbig : 2147483647 < c.1 := by with_reducible assumption
             have e : figOf d2 b2 (minusB x) = none := by
               rw [figOf, if_neg hne, if_neg]
               intro q
               have := q.2
               (exact om245 (by k_asm) (by k_asm) (by k_asm))
             refine Out.intro (by assumption) (by assumption) [] (List.forall_mem_nil _) ⟨?_, rfl⟩
             rw [eF, e]
             rfl)
          | (have hne := nonempty_text (d := d2) (by with_reducible assumption)
             have hfit : ¬ 2147483647 < c.1 := by with_reducible assumption
             have e : figOf d2 b2 (minusB x) = some (sideOf x * c.1) := by
               rcases hsd with ⟨hsd, hmi⟩ | ⟨hsd, hmi⟩ <;> (rw [figOf, if_neg hne, if_pos ⟨hP.2, by (exact om246 (by k_asm) (by k_asm))⟩, hsd, hmi, hP.1]; simp)
             refine Out.intro (by assumption) (by assumption) [] (List.forall_mem_nil _) ⟨?_, rfl⟩
             rw [eF, e]
             exact ⟨_, rfl⟩)

end

section
-- part Comp
section
variable {prog : Program} {w : World} {A : Around} {E : Value → Shared → Prop} {s : Shared} {h₀ : Heap} {L : Addr} {m : Str → Option Value} {env : Env}
/-- a comprehension by what holds of it: the ledger and the items may change from turn to turn -/
theorem comp_inv {σ : Type} {elt : PySem.Expr} {x : Str} {scope : Scope} {cl : List (Str × Addr)} {S : List (Addr × Obj) → Prop} {Pv : Nat → Value → Prop} {Fin : List Value → List (Addr × Obj) → Prop} {n : Nat}
    (Led : σ → List (Addr × Obj)) (P : Nat → List Value → σ → Prop) (c₀ : σ) (hp : P 0 [] c₀)
    (turn : ∀ (c : σ) (i : Nat) (v : Value) (ys : List Value) I oI C oC D m₂ h tk (E' : Value → Shared → Prop), i < n → Pv i v → P i ys c → LCg.NsObj oC m₂ → m₂ x = some v → Fr h₀ L h m →
      News h₀ L h ((I, oI) :: (C, oC) :: (D, LCg.lst ys) :: Led c) → LCg.Off3 I C D (Led c) → ((@Ne Nat I C) ∧ (@Ne Nat I D) ∧ (@Ne Nat C D)) →
      wpAny (model prog w) A (eval elt (compEnvC scope cl C env)) (LCg.CompEnd h₀ L m { s with heap := h, toks := tk } I oI C oC D (LCg.lst ys) S (fun y news' => ∃ c', news' = Led c' ∧ P (i + 1) (ys ++ [y]) c')) E' { s with heap := h, toks := tk })
    (fin : ∀ ys c, P n ys c → Fin ys (Led c)) : LCg.CompRest prog w A h₀ L m env elt x scope cl s S Pv Fin n 0 [] (Led c₀) := by
  have key : ∀ (j i : Nat) (ys : List Value) (c : σ), i + j = n → P i ys c → LCg.CompRest prog w A h₀ L m env elt x scope cl s S Pv Fin j i ys (Led c) := by
    intro j
    induction j with
    | zero =>
      intro i ys c hi hP
      obtain rfl : i = n := hi
      exact LCg.CompRest.zero (fin ys c hP)
    | succ j ih =>
      intro i ys c hi hP
      refine LCg.CompRest.succ ?_
      intro v I oI C oC D m₂ h tk E' hv hC hx F N off ne
      refine wpAny_mono (turn c i v ys I oI C oC D m₂ h tk E' (by (exact om196 (by k_asm))) hv hP hC hx F N off ne) (fun y s₂ hq => ?_) fun _ _ e => e
      (first | (refine hideW ?_; intro gG9; obtain ⟨h', tk', nw, e, F', N', off', hS, c', hn, hP'⟩ := hq; refine (?_ : wpAny _ _ _ _ _ _); clear gG9) | obtain ⟨h', tk', nw, e, F', N', off', hS, c', hn, hP'⟩ := hq)
      subst hn
      exact ⟨h', tk', _, e, F', N', off', hS, ih (i + 1) _ c' (by (exact om197 (by k_asm))) hP'⟩
  exact key n 0 [] c₀ (by (exact Nat.zero_add _)) hp
/-- the same where the ledger stays -/
theorem comp_const {elt : PySem.Expr} {x : Str} {scope : Scope} {cl : List (Str × Addr)} {S : List (Addr × Obj) → Prop} {Pv : Nat → Value → Prop} {Fin : List Value → List (Addr × Obj) → Prop} {n : Nat} {news : List (Addr × Obj)}
    (P : Nat → List Value → Prop) (hp : P 0 [])
    (turn : ∀ (i : Nat) (v : Value) (ys : List Value) I oI C oC D m₂ h tk (E' : Value → Shared → Prop), i < n → Pv i v → P i ys → LCg.NsObj oC m₂ → m₂ x = some v → Fr h₀ L h m →
      News h₀ L h ((I, oI) :: (C, oC) :: (D, LCg.lst ys) :: news) → LCg.Off3 I C D news → ((@Ne Nat I C) ∧ (@Ne Nat I D) ∧ (@Ne Nat C D)) →
      wpAny (model prog w) A (eval elt (compEnvC scope cl C env)) (LCg.CompEnd h₀ L m { s with heap := h, toks := tk } I oI C oC D (LCg.lst ys) S (fun y news' => news' = news ∧ P (i + 1) (ys ++ [y]))) E' { s with heap := h, toks := tk })
    (fin : ∀ ys, P n ys → Fin ys news) : LCg.CompRest prog w A h₀ L m env elt x scope cl s S Pv Fin n 0 [] news := by
  refine comp_inv (σ := Unit) (fun _ => news) (fun i ys _ => P i ys) () hp (fun c i v ys I oI C oC D m₂ h tk E' hi hv hP hC hx F N off ne => ?_) (fun ys _ hP => fin ys hP)
  refine wpAny_mono (turn i v ys I oI C oC D m₂ h tk E' hi hv hP hC hx F N off ne) (fun y s₂ hq => ?_) fun _ _ e => e
  (first | (refine hideW ?_; intro gG9; obtain ⟨h', tk', nw, e, F', N', off', hS, e2, hP'⟩ := hq; refine (?_ : wpAny _ _ _ _ _ _); clear gG9) | obtain ⟨h', tk', nw, e, F', N', off', hS, e2, hP'⟩ := hq)
  exact ⟨h', tk', nw, e, F', N', off', hS, (), e2, hP'⟩
theorem off3_addr {I C D : Addr} : ∀ {l r : List (Addr × Obj)}, l.map (·.1) = r.map (·.1) → LCg.Off3 I C D l → LCg.Off3 I C D r
  | [], [], _, _ => trivial
  | [], _ :: _, h, _ => by cases h
  | _ :: _, [], h, _ => by cases h
  | p :: l, q :: r, h, x => by
    simp only [List.map_cons, List.cons.injEq] at h
    exact ⟨h.1 ▸ x.1, off3_addr h.2 x.2⟩
theorem sign_st {ty : String} {x : Str} {t : Tok} {I : Addr} : ∀ i (h h' : Heap) (o : Obj) (nw : List (Addr × Obj)), h.IsStrIter I ty x t i → h.get? I = some o → h'.get? I = some o → (∀ b o, h₀.get? b = some o → h'.get? b = some o) → News h₀ L h' nw → True → h'.IsStrIter I ty x t i :=
  fun i h h' o nw st e e' _ _ _ => by
    (first | (refine hideW ?_; intro gG9; obtain ⟨o', q, r⟩ := st; refine (?_ : wpAny _ _ _ _ _ _); clear gG9) | obtain ⟨o', q, r⟩ := st)
    rw [e] at q
    cases q
    exact ⟨o, e', r⟩
/-- its iterable is a text -/
noncomputable def TextSrc (prog : Program) (w : World) (A : Around) (h₀ : Heap) (L : Addr) (m : Str → Option Value) (env : Env) (elt : PySem.Expr) (x : Str) (scope : Scope) (cl : List (Str × Addr)) (Fin : Shared → List Value → List (Addr × Obj) → Prop) (xv : Value) (s₁ : Shared) : Prop :=
  ∃ xt t news, xv = .str xt t ∧ A.handled = none ∧ xt.length ≤ sizeLine ∧ Fr h₀ L s₁.heap m ∧ News h₀ L s₁.heap news ∧
    ∀ s₂ : Shared, (∃ h, s₂ = { s₁ with heap := h }) → LCg.CompRest prog w A h₀ L m env elt x scope cl s₂ (fun _ => True) (SignAt xt) (Fin s₂) xt.cps.size 0 [] news
theorem TextSrc.intro {elt : PySem.Expr} {x : Str} {scope : Scope} {cl : List (Str × Addr)} {Fin : Shared → List Value → List (Addr × Obj) → Prop} {xt : Str} {t : Tok} {s₁ : Shared} (news : List (Addr × Obj))
    (hh : A.handled = none) (hl : xt.length ≤ sizeLine) (F : Fr h₀ L s₁.heap m) (N : News h₀ L s₁.heap news)
    (h : ∀ g, LCg.CompRest prog w A h₀ L m env elt x scope cl { s₁ with heap := g } (fun _ => True) (SignAt xt) (Fin { s₁ with heap := g }) xt.cps.size 0 [] news) : TextSrc prog w A h₀ L m env elt x scope cl Fin (.str xt t) s₁ :=
  ⟨xt, t, news, rfl, hh, hl, F, N, fun _ ⟨g, e⟩ => e ▸ h g⟩
/-- a list comprehension over a text's signs -/
theorem ListComp_T {elt iter : PySem.Expr} {x : Str} {px : Pos} {scope : Scope} {cl : List (Str × Addr)} {pos : Pos} {Q : Value → Shared → Prop} (F₀ : Fr h₀ L s.heap m)
    (hclos : closureFor scope env = pure cl) (hcell : ∀ y ∈ scope.names, y.2 ≠ .cell) (hkind : scope.kind = .function)
    (hnames : ∀ y ∈ scope.names, y.2 = .local → scope.names.lookup y.1 = some .local) (hx : scope.names.lookup x = some .local)
    (h : wpAny (model prog w) A (eval iter env) (TextSrc prog w A h₀ L m env elt x scope cl (fun s₂ => LCg.FinE h₀ L m s₂ Q)) E s)
    (hs : ∀ x, foldedSetIterable iter env x = pure x := by intro _; rfl) :
    wpAny (model prog w) A (eval (.ListComp elt [⟨.Name x px, iter, [], 0⟩] scope pos) env) Q E s := by
  rw [eval_ListComp]
  refine wpAny_comprehension_free (use := none) rfl hs hclos hkind hnames (wpAny_mono h (fun xv s₁ h₁ => ?_) fun _ _ e => e)
  (first | (refine hideW ?_; intro gG9; obtain ⟨xt, t, news, zq1, hh, hsz, F, N, R⟩ := h₁; refine (?_ : wpAny _ _ _ _ _ _); clear gG9; (first | subst zq1 | cases zq1)) | obtain ⟨xt, t, news, rfl, hh, hsz, F, N, R⟩ := h₁)
  have fin : ∀ (s₂ : Shared), (∃ h, s₂ = { s₁ with heap := h }) → ∀ D C h tk m' ys news', Fr h₀ L h m → News h₀ L h ((D, LCg.lst ys) :: news') → LCg.Off1 D news' → h.Ns C m' → h₀.get? C = none → h₀.get? D = none → C ≠ L → D ≠ L → C ≠ D → (∀ p ∈ news', p.1 ≠ C) → LCg.FinE h₀ L m s₂ Q ys news' →
      compPost (model prog w) A E none Q (.ref D) C (.ok .next) { s₂ with heap := h, toks := tk } := by
    rintro s₂ ⟨g, rfl⟩ D C h tk m' ys news' F' N' o1 hn hC₀ hD₀ hCL hDL hCD offC fin
    refine ⟨m', hn, fun h'' hs'' => fin D h'' tk (F'.change hs'' hCL hC₀) (fun p hp => ?_) o1⟩
    refine ⟨hs''.extBut _ _ ?_ (N' p hp).1, (N' p hp).2⟩
    rcases List.mem_cons.mp hp with rfl | hp
    · exact Ne.symm hCD
    · exact offC p hp
  cases ha : xt.cps.all (· < 128)
  · refine wpAny_pyIter_wide ha ?_
    refine LCg.block_U (S := fun _ => True) (Walks.strWide hh s₁.heap.objs.size xt t) hsz (fun i h st => by obtain ⟨o, e, _⟩ := st; exact ⟨o, e⟩) sign_st hcell hkind hx ⟨_, Heap.get?_push_size _ rfl, rfl, rfl⟩ (fun b hb => ?_)
      (F.keeps fun _ _ e => Heap.get?_push_of_some _ e) (N.grown fun _ _ e => Heap.get?_push_of_some _ e) (Nat.ne_of_lt F.ns.lt) (next_is_new F) (fun p hp => Nat.ne_of_lt (Heap.lt_size (N p hp).1)) trivial (R _ ⟨_, rfl⟩) (fin _ ⟨_, rfl⟩)
    rw [List.mem_singleton.mp hb]
    show s₁.heap.objs.size < (s₁.heap.push _).objs.size
    rw [Heap.size_push]; exact Nat.lt_succ_self _
  · refine wpAny_pyIter_ascii ha ?_
    refine LCg.block_U (S := fun _ => True) (Walks.strAscii hh s₁.heap.objs.size xt t) hsz (fun i h st => by obtain ⟨o, e, _⟩ := st; exact ⟨o, e⟩) sign_st hcell hkind hx ⟨_, Heap.get?_push_size _ rfl, rfl, rfl⟩ (fun b hb => ?_)
      (F.keeps fun _ _ e => Heap.get?_push_of_some _ e) (N.grown fun _ _ e => Heap.get?_push_of_some _ e) (Nat.ne_of_lt F.ns.lt) (next_is_new F) (fun p hp => Nat.ne_of_lt (Heap.lt_size (N p hp).1)) trivial (R _ ⟨_, rfl⟩) (fin _ ⟨_, rfl⟩)
    rw [List.mem_singleton.mp hb]
    show s₁.heap.objs.size < (s₁.heap.push _).objs.size
    rw [Heap.size_push]; exact Nat.lt_succ_self _
end
/-! a callee's part of the ledger is apart from the rest: as plain facts for omega -/
noncomputable def NeAll (a : Nat) : List (Addr × Obj) → Prop
  | [] => True
  | q :: r => (@Ne Nat a q.1) ∧ NeAll a r
noncomputable def OffAll : List (Addr × Obj) → List (Addr × Obj) → Prop
  | [], _ => True
  | p :: l, r => NeAll p.1 r ∧ OffAll l r
theorem ne_all {a : Addr} : ∀ {r : List (Addr × Obj)}, (∀ q ∈ r, a ≠ q.1) → NeAll a r
  | [], _ => trivial
  | q :: r, h => ⟨h q (.head _), ne_all fun z hz => h z (.tail _ hz)⟩
theorem off_all : ∀ {l r : List (Addr × Obj)}, Off l r → OffAll l r
  | [], _, _ => trivial
  | p :: l, r, h => ⟨ne_all (h p (.head _)), off_all fun z hz => h z (.tail _ hz)⟩
theorem ne_of_all {a : Addr} {r : List (Addr × Obj)} (h : NeAll a r) : ∀ q ∈ r, a ≠ q.1 := by
  induction r with
  | nil => exact fun _ hq => nomatch hq
  | cons z r ih => exact List.forall_mem_cons.mpr ⟨h.1, ih h.2⟩
theorem off_of_all {l r : List (Addr × Obj)} (h : OffAll l r) : Off l r := by
  induction l with
  | nil => exact fun _ hq => nomatch hq
  | cons z l ih => exact List.forall_mem_cons.mpr ⟨ne_of_all h.1, ih h.2⟩
/-- nothings and ints -/
noncomputable def OIAre (vs : List Value) (xs : List (Option Int)) : Prop := vs.length = xs.length ∧ ∀ (i : Nat) (v : Value), vs[i]? = some v → ∃ x, xs[i]? = some x ∧ OptInt x v
theorem OIAre.nil : OIAre [] [] := ⟨rfl, fun _ _ h => by simp at h⟩
theorem OIAre.snoc {vs : List Value} {xs : List (Option Int)} {v : Value} {x : Option Int} (h : OIAre vs xs) (hv : OptInt x v) : OIAre (vs ++ [v]) (xs ++ [x]) := by
  refine ⟨by simp [h.1], fun i u e => ?_⟩
  rcases Nat.lt_or_ge i vs.length with hi | hi
  · rw [List.getElem?_append_left hi] at e
    rw [List.getElem?_append_left (by rw [← h.1]; exact hi)]
    exact h.2 i u e
  · rw [List.getElem?_append_right hi] at e
    rw [List.getElem?_append_right (by rw [← h.1]; exact hi), ← h.1]
    match q : i - vs.length with
    | 0 => rw [q] at e; simp at e; subst e; exact ⟨x, rfl, hv⟩
    | k + 1 => rw [q] at e; simp at e
/-- a statement whose ways meet again with nothing but the count of texts changed -/
theorem cut_still {M : Model} {A : Around} {env : Env} {E : Value → Shared → Prop} {Q : Flow → Shared → Prop} {st : Stmt} {s : Shared} {g : Heap} {L : Addr} {m : Str → Option Value} {all : List (Addr × Obj)}
    (h1 : wpAny M A (exec st env) (fun f s' => f = .next ∧ ∃ h tk, s' = { s with heap := h, toks := tk } ∧ Fr g L h m ∧ News g L h all) E s)
    (h2 : ∀ h tk, Fr g L h m → News g L h all → Q .next { s with heap := h, toks := tk }) : wpAny M A (exec st env) Q E s :=
  wpAny_mono h1 (fun f s' hf => by
    (first | (refine hideW ?_; intro gG9; obtain ⟨zq1, h, tk, zq2, F, N⟩ := hf; refine (?_ : wpAny _ _ _ _ _ _); clear gG9; (first | subst zq1 | cases zq1); (first | subst zq2 | cases zq2)) | obtain ⟨rfl, h, tk, rfl, F, N⟩ := hf)
    exact h2 h tk F N) fun _ _ x => x
noncomputable def Still (g : Heap) (L : Addr) (m : Str → Option Value) (all : List (Addr × Obj)) (s : Shared) (f : Flow) (s' : Shared) : Prop := f = .next ∧ ∃ h tk, s' = { s with heap := h, toks := tk } ∧ Fr g L h m ∧ News g L h all
theorem Still.intro {g : Heap} {L : Addr} {m : Str → Option Value} {all : List (Addr × Obj)} {s : Shared} {h : Heap} {tk : Nat} (F : Fr g L h m) (N : News g L h all) : Still g L m all s .next { s with heap := h, toks := tk } := ⟨rfl, h, tk, rfl, F, N⟩
theorem cut_if {M : Model} {A : Around} {env : Env} {E : Value → Shared → Prop} {Q : Flow → Shared → Prop} {st : Stmt} {s : Shared} {g : Heap} {L : Addr} {m : Str → Option Value} {all : List (Addr × Obj)} (_F : Fr g L s.heap m) (_N : News g L s.heap all)
    (h1 : wpAny M A (exec st env) (Still g L m all s) E s)
    (h2 : ∀ h tk, Fr g L h m → News g L h all → Q .next { s with heap := h, toks := tk }) : wpAny M A (exec st env) Q E s := cut_still h1 h2
/-- a callee's part taken out of the ledger -/
@[irreducible] noncomputable def PickAll (pre all rest : List (Addr × Obj)) : Prop := ∀ q ∈ pre ++ rest, q ∈ all
theorem PickAll.nil {all : List (Addr × Obj)} : PickAll [] all all := by unfold PickAll; exact fun _ h => h
theorem PickAll.cons {d : Addr} {o : Obj} {pre all r rest : List (Addr × Obj)} (zh1 : Pick d o all r) (zh2 : PickAll pre r rest) : PickAll ((d, o) :: pre) all rest := by
  unfold PickAll at zh2 ⊢
  intro q hq
  rcases List.mem_cons.mp hq with rfl | hq
  · exact zh1.sub _ (.head _)
  · exact zh1.sub _ (.tail _ (zh2 q hq))
theorem PickAll.sub {pre all rest : List (Addr × Obj)} (h : PickAll pre all rest) : ∀ q ∈ pre ++ rest, q ∈ all := by unfold PickAll at h; exact h
section
variable {w : World} {f : Addr} {vs : List Value} {dN uN : Nat} {pre : List (Addr × Obj)} {Hyp : Heap → Prop} {Post : Value → List (Addr × Obj) → Prop}
  {p : Program} {loose : List Str} {mean : ExcName → Option Value} {mg mb : Str → Option Value} {dp un : Nat} {gd : Option (List Code)} {cn : Str} {cs : Scope} {a : Addr} {ccd : Value} {cl : List (Str × Addr)} {outer : List Env} {A₀ : Around} {base h₀ : Heap} {L : Addr} {m : Str → Option Value} {s : Shared} {Q E : Value → Shared → Prop}
theorem useP {hQ : Heap} {gQ : _} {dQ : _} {tQ : Nat} {oQ : _} {all rest : List (Addr × Obj)} (H : CallsOk w f vs dN uN pre Hyp Post) (B : Below A₀ base outer h₀) (F : Fr h₀ L hQ m) (X : (Mine.hd.heap_39 w.params).In h₀) (N : News h₀ L hQ all) (T : Top p loose mean mg mb h₀) (hk : cs.kind = .function)
    (hd : dp + dN < recursionLimit) (hu : un + uN < cLine) (hy : Hyp hQ) (hp : PickAll pre all rest) (hn : Off pre rest)
    (ret : ∀ (v : Value) (post : List (Addr × Obj)) (h' : Heap) (tk' : Nat), Fr h₀ L h' m → News h₀ L h' (post ++ rest) → Off post rest → Post v post → Q v ⟨h', gQ, dQ, tk', oQ⟩) :
    wpAny (model PySem.Challenge.rw_pq1336_01.row.prog w) (ktrTop dp un gd cn cs L a ccd cl outer) (call (.ref f) vs) Q E ⟨hQ, gQ, dQ, tQ, oQ⟩ :=
  useL H B F X N T hk hd hu hy hp.sub hn ret
end

end

section
-- part Spread
/-- the row that a written row stands for: a-d is a b c d; none: a falling range -/
noncomputable def spreadF : List Nat → Option (List Nat)
  | [] => some []
  | [a] => some [a]
  | [a, b] => some [a, b]
  | a :: b :: c :: r => if b = 45 then (if c < a then none else (spreadF r).map (List.range' a (c + 1 - a) ++ ·)) else (spreadF (b :: c :: r)).map (a :: ·)
/-- texts of one sign -/
noncomputable def sgn (c : Nat) : Option Str := some ⟨#[c]⟩
theorem spreadF_rng {a c : Nat} {r out : List Nat} (h : spreadF (a :: 45 :: c :: r) = some out) : a ≤ c ∧ ∃ o, spreadF r = some o ∧ out = List.range' a (c + 1 - a) ++ o := by
  rw [spreadF, if_pos rfl] at h
  split at h
  · cases h
  · cases q : spreadF r with
    | none => rw [q] at h; cases h
    | some o => rw [q] at h; cases h; exact ⟨by (exact om53 (by k_asm)), o, rfl, rfl⟩
theorem spreadF_one : ∀ {a : Nat} {r out : List Nat}, spreadF (a :: r) = some out → (∀ c t, r ≠ 45 :: c :: t) → ∃ o, spreadF r = some o ∧ out = a :: o
  | a, [], out, h, _ => ⟨[], rfl, (Option.some.inj h).symm⟩
  | a, [b], out, h, _ => ⟨[b], rfl, (Option.some.inj h).symm⟩
  | a, b :: c :: t, out, h, hr => by
    rw [spreadF, if_neg (fun e => hr c t (by rw [e]))] at h
    cases q : spreadF (b :: c :: t) with
    | none => rw [q] at h; cases h
    | some o => rw [q] at h; cases h; exact ⟨o, rfl, rfl⟩
example : spreadF [97, 45, 100] = some [97, 98, 99, 100] := by decide
theorem drop_at {l : List Nat} {i a : Nat} (h : l[i]? = some a) : l.drop i = a :: l.drop (i + 1) := by
  have hi : i < l.length := (List.getElem?_eq_some_iff.mp h).1
  rw [List.drop_eq_getElem_cons hi]
  congr 1
  exact (List.getElem?_eq_some_iff.mp h).2
theorem OSAre.snoc {vs : List Value} {xs : List (Option Str)} {v : Value} {x : Option Str} (h : OSAre vs xs) (hv : OSV x v) : OSAre (vs ++ [v]) (xs ++ [x]) := h.append (.cons hv .nil)
theorem sign_at {prog : Program} {w : World} {A : Around} {E : Value → Shared → Prop} {s : Shared} {value slice : PySem.Expr} {x : Str} {t u : Tok} {i : Nat} {c : Nat} {k : Int} {Q : Value → Shared → Prop}
    (hc : x.cps.toList[i]? = some c) (hk : k = (i : Int)) (hl : x.length ≤ 1000) (h : Q (.str ⟨#[c]⟩ s.toks) { s with toks := s.toks + 1 })
    (hs : subscripted slice false (.str x t) (.int k u) = operate [.str x t, .int k u] (getItem (.str x t) (.int k u)) := by with_unfolding_all rfl)
    (ht : ∀ r, letTemporaryGo value (.str x t) r = pure () := by intro _; with_unfolding_all rfl) :
    wpAny (model prog w) A (subscriptTail value slice (.str x t) (.int k u)) Q E s := by
  subst hk
  have hi : i < x.length := by
    have := (List.getElem?_eq_some_iff.mp hc).1
    have e : x.cps.toList.length = x.length := by simp [Str.length]
    (exact om54 (by k_asm) (by k_asm))
  have e : Txt.item x (i : Int) = ⟨#[c]⟩ := by
    have hc' : x.cps[i]? = some c := by simpa using hc
    have h1 : seqIndex? (i : Int) x.length = some i := by
      unfold seqIndex?
      have h0 : ¬ ((i : Int) < 0) := by (exact om55)
      have h2 : (i : Int) < (x.length : Int) := by (exact om56 (by k_asm))
      simp [h0, h2]
    simp [Txt.item, Txt.charAt, h1, hc']
  refine KXi.item (n := x.length) rfl (by (exact om57)) (by (exact om56 (by k_asm))) (by (exact Nat.le_trans (by with_reducible assumption) (Nat.le_of_ble_eq_true rfl))) (fun _ => ?_) hs ht
  rw [e]
  exact h
structure SpC where
  i : Nat
  vs : List Value
  n : Nat
  ti : Nat
  done : List Nat
  todo : List Nat
set_option maxRecDepth 100000 in
set_option maxHeartbeats 1000000 in
theorem spread_ok (w : World) (x : Str) (t : Nat) (out : List Nat) (hx : x.length ≤ 20) (ho : out.length ≤ 200) (ha : ∀ c ∈ x.cps.toList, c < 128) (hs : spreadF x.cps.toList = some out) :
  CallsOk w 614 [.str x t] 6 300 [] (fun _ => True) (fun v post => ∃ D vs n, v = .ref D ∧ post = [(D, listOf vs.toArray n)] ∧ OSAre vs (out.map sgn)) := by
  unfold CallsOk
  have tg9 : Mine.Tg 1884 := tgI 1884
  k_fill
  intro p loose mean mg mb dp un gd cn cs a ccd cl outer A₀ base h₀ L m rest s Q E B F X N hoff T hk hd hu hy hret
  refine wpAny_call ?_
  k_dflt (refine' code_defW ?y0k1 ?y0k2 ?y0k3 ?y0k4 ?y0kO ?y0k5 ?y0kA ?y0kF ?y0kK ?y0k6 ?y0k7 ?y0k8 ?y0k9 ?y0kB ?y0kR ?_ ?y0c2 ?y0c3 ?y0c4 ?y0c5; (case y0kA => exact rfl); (case y0kF => exact rfl); (case y0kK => assumption); (case y0k1 => k_asm); (case y0k2 => k_asm); (case y0k3 => k_asm); (case y0k4 => k_asm); (case y0kO => assumption); (case y0k5 => k_asm); (case y0k6 => k_is); (case y0k7 => k_is); (case y0k8 => ktr_room); (case y0k9 => first | exact BindsTo.of_eq rfl | exact binds_K (by k_in) rfl (by k_is) rfl rfl rfl); (case y0c5 => decide); (case y0kB => exact locs rfl); (case y0kR => assumption); (case y0c2 => exact rfl); (case y0c3 => exact rfl); (case y0c4 => exact rfl); k_whole; intro g1 L1 h1 FG1 F1 N1 B1 X1 T1 G1; (try k_lift B1); (first | ((refine name_env2 ?_); intro tkE aA eE qk xE) | ((try dsimp only); (try k_fold); (try ((refine name_env ?_); intro aA eE xE)))))
  k_with "exec While Compare cons nil" => guard_hyp tg9 : Mine.Tg 1884; refine Halt.out ?_
  k_steps
  rename_i fnd _ _ _ _ _ _ _ _ F5 N5 _ _ _ _ _
  unfold Halt
  have hxl : x.cps.toList.length = x.length := by simp [Str.length]
  refine' ksw_while (fun c : SpC => [(fnd, listOf c.vs.toArray c.n)]) (fun c => [(Str.ofString "at", .int (c.i : Int) c.ti)]) (fun _ => True) [Str.ofString "first", Str.ofString "last", Str.ofString "code"] (fun c => c.i ≤ x.cps.toList.length ∧ spreadF (x.cps.toList.drop c.i) = some c.todo ∧ OSAre c.vs (c.done.map sgn) ∧ c.done ++ c.todo = out) (fun c => x.cps.toList.length - c.i) ⟨0, [], 0, _, [], out⟩ (by assumption) N5 trivial ?hk1 ⟨Nat.zero_le _, hs, OSAre.nil, rfl⟩ ?turn1
  case hk1 => tb_start
  case turn1 =>
    intro c u h4 tk4 _ hP F4 N4
    (first | (refine hideW ?_; intro gG9; obtain ⟨hp1, hp2, hp3, hp4⟩ := hP; refine (?_ : wpAny _ _ _ _ _ _); clear gG9) | obtain ⟨hp1, hp2, hp3, hp4⟩ := hP)
    have hcl : c.vs.length ≤ 200 := by
      have := congrArg List.length hp4
      have := hp3.1
      simp only [List.length_append, List.length_map] at *
      (exact om58 (by k_asm) (by k_asm) (by k_asm))
    rcases Nat.lt_or_ge c.i x.cps.toList.length with hlt | hge
    · obtain ⟨a0, ha0⟩ : ∃ a0, x.cps.toList[c.i]? = some a0 := ⟨_, List.getElem?_eq_getElem hlt⟩
      have ed := drop_at ha0
      by_cases hr : ∃ b0 r0, x.cps.toList.drop (c.i + 1) = 45 :: b0 :: r0
      · obtain ⟨b0, r0, er⟩ := hr
        rw [ed, er] at hp2
        (first | (refine hideW ?_; intro gG9; obtain ⟨hab, o, ho1, ho2⟩ := spreadF_rng hp2; refine (?_ : wpAny _ _ _ _ _ _); clear gG9) | obtain ⟨hab, o, ho1, ho2⟩ := spreadF_rng hp2)
        have e1 : x.cps.toList[c.i + 1]? = some 45 := by
          have := congrArg (·[0]?) er
          simpa using this
        have e2 : x.cps.toList[c.i + 2]? = some b0 := by
          have := congrArg (·[1]?) er
          simpa using this
        have hl2 : c.i + 2 < x.length := by have := (List.getElem?_eq_some_iff.mp e2).1; (exact om59 (by k_asm) (by k_asm))
        have ha9 : a0 < 128 := ha _ (List.mem_of_getElem? ha0)
        have hb9 : b0 < 128 := ha _ (List.mem_of_getElem? e2)
        k_with "pyIter ref" => guard_hyp tg9 : Mine.Tg 1884; refine Halt.out ?_
        k_with "subscriptTail Name Name str int" => guard_hyp tg9 : Mine.Tg 1884; (refine sign_at ha0 (by (exact om60)) (by (exact Nat.le_trans (by with_reducible assumption) (Nat.le_of_ble_eq_true rfl))) ?_)
        k_with "subscriptTail Name BinOp str int" => guard_hyp tg9 : Mine.Tg 1884; (first | (refine sign_at e1 (by (exact om61)) (by (exact Nat.le_trans (by with_reducible assumption) (Nat.le_of_ble_eq_true rfl))) ?_) | (refine sign_at e2 (by (exact om62)) (by (exact Nat.le_trans (by with_reducible assumption) (Nat.le_of_ble_eq_true rfl))) ?_))
        k_steps
        rename_i hr8 F8 N8 _
        unfold Halt
        have hol : c.done.length + ((b0 + 1 - a0) + o.length) ≤ 200 := by
          have := congrArg List.length hp4
          rw [ho2] at this
          simp only [List.length_append, List.length_range'] at this
          (exact om63 ho this)
        refine' for_range (n := b0 + 1 - a0) (fun c8 : List Value × Nat => [(fnd, listOf c8.1.toArray c8.2)]) (fun _ => []) [] (fun j c8 => OSAre c8.1 ((c.done ++ List.range' a0 j).map sgn)) (c.vs, c.n) (by rfl) hr8 (small_one (by (exact om4)) (by (exact om64 (by k_asm))) (by (exact om65)) (by (exact om66 (by k_asm)))) (by have := rangeSize_nat (a0 : Int) ((b0 : Int) + 1); rw [this]; (exact om67)) F8 N8 (List.forall_mem_nil _) (by simpa using hp3) ?turn2 ?done2
        case turn2 =>
          intro c8 j t8 u8 h8 tk8 own8 hj hoff8 ha8 hP8 F9 N9
          dsimp only [List.map_cons, List.map_nil, List.cons_append, List.nil_append] at hoff8 N9
          have hc8 : c8.1.length ≤ 200 := by
            have := hP8.1
            simp only [List.length_append, List.length_map, List.length_range'] at this
            (exact om68 (by k_asm) (by k_asm) (by k_asm))
          have e8 : (a0 : Int) + (j : Int) = ((a0 + j : Nat) : Int) := by (exact om69)
          k_steps
          rename (News _ _ _ _) => N10
          simp +zetaDelta only [List.push_toArray] at N10
          refine' turn_next (c8.1 ++ [.str ⟨#[((a0 : Int) + (j : Int)).toNat]⟩ tk8], c8.2 + 1) (by assumption) N10 (fun p hp => by rw [List.mem_singleton.mp hp]; exact .head _) (fun p hp => .tail _ hp) rfl (List.forall_mem_nil _) (by (intro z; (first | intro h1 h2 h3 | intro h2 h3); (repeat (first | with_reducible rfl | exact relS h3 | refine relI (by first | with_reducible assumption | exact relN h3 (by with_unfolding_all rfl) | exact relP h2 (by with_unfolding_all rfl)) ?_ | refine relK (by first | with_reducible assumption | exact List.forall_mem_nil _ | exact relM h2 rfl) ?_ | exact rfl)); done)) ?hp9
          case hp9 =>
            rw [List.range'_concat, ← List.append_assoc, List.map_append]
            refine OSAre.snoc hP8 ⟨tk8, ?_⟩
            rw [e8, Int.toNat_natCast, Nat.one_mul]
        case done2 =>
          intro c8 u8 h8 tk8 hP8 F9 N9
          k_steps
          refine haltI ?_
          refine' ksw_end ⟨c.i + 3, c8.1, c8.2, _, c.done ++ List.range' a0 (b0 + 1 - a0), o⟩ (by assumption) (by assumption) (by kqd_sub) trivial ?hk3 (by (intro z; (first | intro h1 h2 h3 | intro h2 h3); (repeat (first | with_reducible rfl | exact relS h3 | refine relI (by first | with_reducible assumption | exact relN h3 (by with_unfolding_all rfl) | exact relP h2 (by with_unfolding_all rfl)) ?_ | refine relK (by first | with_reducible assumption | exact List.forall_mem_nil _ | exact relM h2 rfl) ?_ | exact rfl)); done)) ⟨by show c.i + 3 ≤ _; (exact om70 (by k_asm) (by k_asm)), ?_, hP8, by show (c.done ++ _) ++ o = out; rw [List.append_assoc, ← ho2]; exact hp4⟩ (by show x.cps.toList.length - (c.i + 3) < x.cps.toList.length - c.i; (exact om71 (by k_asm) (by k_asm)))
          case hk3 => tb_start
          have e3 : x.cps.toList.drop (c.i + 3) = r0 := by
            have := congrArg (List.drop 2) er
            simpa using this
          show spreadF (x.cps.toList.drop (c.i + 3)) = some o
          rw [e3]; exact ho1
      · rw [ed] at hp2
        (first | (refine hideW ?_; intro gG9; obtain ⟨o, ho1, ho2⟩ := spreadF_one hp2 (fun b0 r0 e => hr ⟨b0, r0, e⟩); refine (?_ : wpAny _ _ _ _ _ _); clear gG9) | obtain ⟨o, ho1, ho2⟩ := spreadF_one hp2 (fun b0 r0 e => hr ⟨b0, r0, e⟩))
        have hpn : ∀ v, OSV (sgn a0) v → OSAre (c.vs ++ [v]) ((c.done ++ [a0]).map sgn) := fun v hv => by
          rw [List.map_append]
          exact OSAre.snoc hp3 hv
        k_with "pyIter ref" => guard_hyp tg9 : Mine.Tg 1884; refine Halt.out ?_
        k_with "subscriptTail Name Name str int" => guard_hyp tg9 : Mine.Tg 1884; (refine sign_at ha0 (by (exact om60)) (by (first | exact Nat.le_trans (by with_reducible assumption) (Nat.le_of_ble_eq_true rfl) | exact om72 (by k_asm))) ?_)
        rcases Nat.lt_or_ge (c.i + 2) x.length with h2 | h2
        · obtain ⟨b0, hb0⟩ : ∃ b0, x.cps.toList[c.i + 1]? = some b0 := ⟨_, List.getElem?_eq_getElem (by (exact om73 (by k_asm) (by k_asm)))⟩
          have hne : b0 ≠ 45 := fun e => by
            obtain ⟨c0, hc0⟩ : ∃ b0, x.cps.toList[c.i + 2]? = some b0 := ⟨_, List.getElem?_eq_getElem (by (exact om74 (by k_asm) (by k_asm)))⟩
            exact hr ⟨c0, _, by rw [drop_at hb0, drop_at hc0, e]⟩
          have hbe : ((⟨#[b0]⟩ : Str) == Str.ofString "-") = false := by
            rw [beq_eq_false_iff_ne]
            intro e
            have : (⟨#[b0]⟩ : Str).cps.toList = [45] := by rw [e]; decide
            simp at this
            exact hne this
          k_with "subscriptTail Name BinOp str int" => guard_hyp tg9 : Mine.Tg 1884; (refine sign_at hb0 (by (exact om61)) (by (exact Nat.le_trans (by with_reducible assumption) (Nat.le_of_ble_eq_true rfl))) ?_)
          k_with "compareOp Eq str str" => guard_hyp tg9 : Mine.Tg 1884; (refine eq_str ?_; rw [hbe])
          k_steps
          rename (News _ _ _ _) => N10
          simp +zetaDelta only [List.push_toArray] at N10
          refine haltI ?_
          refine' ksw_end ⟨c.i + 1, c.vs ++ [_], c.n + 1, _, c.done ++ [a0], o⟩ (by assumption) N10 (by kqd_sub) trivial ?hk4 (by (intro z; (first | intro h1 h2 h3 | intro h2 h3); (repeat (first | with_reducible rfl | exact relS h3 | refine relI (by first | with_reducible assumption | exact relN h3 (by with_unfolding_all rfl) | exact relP h2 (by with_unfolding_all rfl)) ?_ | refine relK (by first | with_reducible assumption | exact List.forall_mem_nil _ | exact relM h2 rfl) ?_ | exact rfl)); done)) ⟨by show c.i + 1 ≤ _; (exact om75 (by k_asm) (by k_asm)), ho1, hpn _ ⟨_, rfl⟩, by show (c.done ++ _) ++ o = out; rw [List.append_assoc, ← hp4, ho2]; rfl⟩ (by show x.cps.toList.length - (c.i + 1) < x.cps.toList.length - c.i; (exact om76 (by k_asm) (by k_asm)))
          case hk4 => tb_start
        · k_steps
          rename (News _ _ _ _) => N10
          simp +zetaDelta only [List.push_toArray] at N10
          refine haltI ?_
          refine' ksw_end ⟨c.i + 1, c.vs ++ [_], c.n + 1, _, c.done ++ [a0], o⟩ (by assumption) N10 (by kqd_sub) trivial ?hk4 (by (intro z; (first | intro h1 h2 h3 | intro h2 h3); (repeat (first | with_reducible rfl | exact relS h3 | refine relI (by first | with_reducible assumption | exact relN h3 (by with_unfolding_all rfl) | exact relP h2 (by with_unfolding_all rfl)) ?_ | refine relK (by first | with_reducible assumption | exact List.forall_mem_nil _ | exact relM h2 rfl) ?_ | exact rfl)); done)) ⟨by show c.i + 1 ≤ _; (exact om77 (by k_asm)), ho1, hpn _ ⟨_, rfl⟩, by show (c.done ++ _) ++ o = out; rw [List.append_assoc, ← hp4, ho2]; rfl⟩ (by show x.cps.toList.length - (c.i + 1) < x.cps.toList.length - c.i; (exact om78 (by k_asm)))
          case hk4 => tb_start
    · have hge' : x.length ≤ c.i := by (exact om79 (by k_asm) (by k_asm))
      have e0 : x.cps.toList.drop c.i = [] := List.drop_eq_nil_of_le hge
      rw [e0] at hp2
      have hp2' := (Option.some.inj hp2).symm
      rw [hp2', List.append_nil] at hp4
      rw [hp4] at hp3
      k_steps
      exact Out.intro (by assumption) (by assumption) [(fnd, listOf c.vs.toArray c.n)] (by kqd_sub) ⟨fnd, c.vs, c.n, rfl, rfl, hp3⟩

end

section
-- part Chartr
theorem valueAt_cons {K : Type} [DecidableEq K] (p : K × Value) (es : List (K × Value)) (y : K) : valueAt (p :: es) y = if p.1 = y then some p.2 else valueAt es y := by
  unfold valueAt
  simp only [List.find?_cons]
  by_cases e : p.1 = y
  · simp [e]
  · simp [e]
theorem valueAt_stored {K : Type} [DecidableEq K] (es : List (K × Value)) (k : K) (v : Value) (y : K) : valueAt (stored es k v) y = if k = y then some v else valueAt es y := by
  have app : ∀ (l : List (K × Value)), l.any (fun kv => kv.1 = k) = false → valueAt (l ++ [(k, v)]) y = if k = y then some v else valueAt l y := by
    intro l
    induction l with
    | nil => intro _; rw [List.nil_append, valueAt_cons]
    | cons p r ih =>
      intro h
      rw [List.any_cons, Bool.or_eq_false_iff] at h
      rw [List.cons_append, valueAt_cons, valueAt_cons, ih h.2]
      have h1 : p.1 ≠ k := by simpa using h.1
      by_cases e : p.1 = y
      · rw [if_pos e, if_pos e, if_neg (fun q => h1 (e.trans q.symm))]
      · rw [if_neg e, if_neg e]
  have mp : ∀ (l : List (K × Value)), l.any (fun kv => kv.1 = k) = true → valueAt (l.map (fun kv => if kv.1 = k then (kv.1, v) else kv)) y = if k = y then some v else valueAt l y := by
    intro l
    induction l with
    | nil => intro h; cases h
    | cons p r ih =>
      intro h
      rw [List.map_cons, valueAt_cons, valueAt_cons]
      by_cases e : p.1 = k
      · rw [if_pos e]
        by_cases q : p.1 = y
        · rw [if_pos q, if_pos (e.symm.trans q)]
        · rw [if_neg q, if_neg q, if_neg (fun z => q (e.trans z))]
          by_cases hr : r.any (fun kv => kv.1 = k) = true
          · rw [ih hr, if_neg (fun z => q (e.trans z))]
          · have : r.map (fun kv => if kv.1 = k then (kv.1, v) else kv) = r := by
              rw [List.map_congr_left (g := _root_.id)]
              · simp
              · intro kv hkv
                have : ¬ kv.1 = k := fun z => hr (List.any_eq_true.mpr ⟨kv, hkv, by simpa using z⟩)
                simp [this]
            rw [this]
      · rw [if_neg e]
        have hr : r.any (fun kv => kv.1 = k) = true := by
          rw [List.any_cons] at h
          simpa [e] using h
        rw [ih hr]
        by_cases q : p.1 = y
        · rw [if_pos q, if_pos q, if_neg (fun z => e (q.trans z.symm))]
        · rw [if_neg q, if_neg q]
  unfold stored
  split
  · rename_i h; exact mp es h
  · rename_i h; exact app es (by rw [Bool.not_eq_true] at h; exact h)
theorem stored_len {K : Type} [DecidableEq K] (es : List (K × Value)) (k : K) (v : Value) : (stored es k v).length ≤ es.length + 1 := by
  unfold stored
  split
  · rw [List.length_map]; (exact Nat.le_add_right _ _)
  · rw [List.length_append]; exact Nat.le_refl _
/-- each sign of the old row into that of its place in the new -/
noncomputable def chF : List (Nat × Nat) → Nat → Nat := fun ps => ps.foldl (fun f p c => if c = p.1 then p.2 else f c) (fun c => c)
theorem chF_snoc (ps : List (Nat × Nat)) (p : Nat × Nat) (c : Nat) : chF (ps ++ [p]) c = if c = p.1 then p.2 else chF ps c := by
  unfold chF
  rw [List.foldl_append]
  rfl
noncomputable def mapT (f : Nat → Nat) (x : Str) : Str := ⟨(x.cps.toList.map f).toArray⟩
/-- a dict that holds a change of signs -/
noncomputable def TOk (f : Nat → Nat) (es : List (Str × Value)) : Prop := ∀ c : Nat, match valueAt es ⟨#[c]⟩ with | none => f c = c | some v => ∃ t, v = .str ⟨#[f c]⟩ t
theorem TOk.nil : TOk (chF []) [] := fun _ => rfl
theorem TOk.snoc {ps : List (Nat × Nat)} {es : List (Str × Value)} (h : TOk (chF ps) es) (a b t : Nat) : TOk (chF (ps ++ [(a, b)])) (stored es ⟨#[a]⟩ (.str ⟨#[b]⟩ t)) := by
  intro c
  rw [valueAt_stored, chF_snoc]
  have hc : ((⟨#[a]⟩ : Str) = ⟨#[c]⟩) ↔ c = a := by
    constructor
    · intro e
      have : (⟨#[a]⟩ : Str).cps.toList = (⟨#[c]⟩ : Str).cps.toList := by rw [e]
      simpa using this.symm
    · rintro rfl; rfl
  by_cases e : c = a
  · rw [if_pos (hc.mpr e), if_pos e]; exact ⟨t, rfl⟩
  · rw [if_neg (fun z => e (hc.mp z)), if_neg e]; exact h c
theorem strVals_of : ∀ {vs : List Value} {cs : List Nat}, OSAre vs (cs.map sgn) → ∃ l : List (Str × Tok), vs = strValues l ∧ l.map (·.1) = cs.map (fun c => (⟨#[c]⟩ : Str))
  | [], [], _ => ⟨[], rfl, rfl⟩
  | [], _ :: _, h => by have := h.1; simp at this
  | _ :: _, [], h => by have := h.1; simp at this
  | v :: vs, c :: cs, h => by
    (first | (refine hideW ?_; intro gG9; obtain ⟨x, hx, hv⟩ := h.2 0 v rfl; refine (?_ : wpAny _ _ _ _ _ _); clear gG9) | obtain ⟨x, hx, hv⟩ := h.2 0 v rfl)
    simp at hx
    subst hx
    obtain ⟨t, rfl⟩ := hv
    obtain ⟨l, h1, h2⟩ := strVals_of (vs := vs) (cs := cs) ⟨by have := h.1; simpa using this, fun i u e => by
      obtain ⟨x, hx, hv⟩ := h.2 (i + 1) u (by simpa using e)
      exact ⟨x, by simpa using hx, hv⟩⟩
    exact ⟨(⟨#[c]⟩, t) :: l, by rw [h1]; rfl, by rw [List.map_cons, h2, List.map_cons]⟩
theorem join_nil_cons (y : Str) (r : List Str) : (Str.join (Str.ofString "") (y :: r)).cps.toList = y.cps.toList ++ (Str.join (Str.ofString "") r).cps.toList := by
  cases r with
  | nil => show y.cps.toList = _; simp [Str.join]; rfl
  | cons z r =>
    show (y ++ Str.ofString "" ++ Str.join (Str.ofString "") (z :: r)).cps.toList = _
    rw [Str.cps_append, Str.cps_append]
    have : (Str.ofString "").cps = #[] := by decide
    rw [this]
    simp
theorem join_sgns (cs : List Nat) : Str.join (Str.ofString "") (cs.map fun c => (⟨#[c]⟩ : Str)) = ⟨cs.toArray⟩ := by
  apply str_eq
  show _ = cs
  induction cs with
  | nil => decide
  | cons c r ih => rw [List.map_cons, join_nil_cons, ih]; rfl
theorem join_at {prog : Program} {w : World} {A : Around} {E : Value → Shared → Prop} {s : Shared} {h₀ : Heap} {L : Addr} {news : List (Addr × Obj)} {D : Addr} {vs : List Value} {n t : Nat} {cs : List Nat} {Q : Value → Shared → Prop}
    (N : News h₀ L s.heap news) (hm : (D, listOf vs.toArray n) ∈ news) (hv : OSAre vs (cs.map sgn)) (hl : cs.length ≤ 10000) (hq : ∀ t' k, Q (.str ⟨cs.toArray⟩ t') { s with toks := k }) :
    wpAny (model prog w) A (call (.builtin "str.join") [.str (Str.ofString "") t, .ref D]) Q E s := by
  (first | (refine hideW ?_; intro gG9; obtain ⟨l, zq1, h2⟩ := strVals_of hv; refine (?_ : wpAny _ _ _ _ _ _); clear gG9; (first | subst zq1 | cases zq1)) | obtain ⟨l, rfl, h2⟩ := strVals_of hv)
  refine SC.join (l := l) ⟨_, (N _ hm).1, rfl, n, rfl⟩ h2 ?_ ?_
  · unfold JoinOk
    rw [StrLaws.joinFits (B := 1)]
    · rfl
    · intro y hy
      (first | (refine hideW ?_; intro gG9; obtain ⟨c, _, zq1⟩ := List.mem_map.mp hy; refine (?_ : wpAny _ _ _ _ _ _); clear gG9; (first | subst zq1 | cases zq1)) | obtain ⟨c, _, rfl⟩ := List.mem_map.mp hy)
      exact Nat.le_refl _
    · rw [List.length_map, show (Str.ofString "").length = 0 from by decide]; (exact om105 (by k_asm))
  · intro t' k
    have := hq t' k
    rw [← join_sgns cs, ← StrLaws.glued_eq_join] at this
    exact this
theorem osa_len {vs : List Value} {cs : List Nat} (h : OSAre vs (cs.map sgn)) : vs.length = cs.length := by rw [h.1, List.length_map]
theorem osa_at {vs : List Value} {cs : List Nat} (h : OSAre vs (cs.map sgn)) {i c : Nat} (hc : cs[i]? = some c) : ∃ t, vs[i]? = some (.str ⟨#[c]⟩ t) := by
  have hi := (List.getElem?_eq_some_iff.mp hc).1
  obtain ⟨v, hv, ho⟩ := h.at (i := i) (by rw [List.length_map]; exact hi)
  obtain ⟨t, rfl⟩ : ∃ t, v = .str ⟨#[c]⟩ t := by
    have e : (cs.map sgn)[i]'(by rw [List.length_map]; exact hi) = sgn c := by
      rw [List.getElem_map, (List.getElem?_eq_some_iff.mp hc).2]
    rw [e] at ho
    exact ho
  exact ⟨t, hv⟩
set_option maxRecDepth 100000 in
set_option maxHeartbeats 1000000 in
theorem chartr_ok (w : World) (x y : Str) (t1 t2 : Nat) (b h : List Nat) (ot : Option Str) (tv : Value) (hb : spreadF x.cps.toList = some b) (hh : spreadF y.cps.toList = some h) (hbl : b.length ≤ h.length) (hhl : h.length ≤ 200)
    (hxl : x.length ≤ 20) (hyl : y.length ≤ 20) (hxa : ∀ c ∈ x.cps.toList, c < 128) (hya : ∀ c ∈ y.cps.toList, c < 128) (htv : OSV ot tv) (hol : ∀ z, ot = some z → z.length ≤ 100) :
  CallsOk w 619 [.str x t1, .str y t2, tv] 20 1000 [] (fun _ => True) (fun v post => OSV (ot.map (mapT (chF (b.zip h)))) v ∧ post = []) := by
  unfold CallsOk
  have tg9 : Mine.Tg 83606 := tgI 83606
  k_fill
  intro p loose mean mg mb dp un gd cn cs a ccd cl outer A₀ base h₀ L m rest s Q E B F X N hoff T hk hd hu hy hret
  refine wpAny_call ?_
  cases ot with
  | none =>
    obtain rfl : tv = .none := htv
    k_dflt (refine' code_defWC ?y0k1 ?y0k2 ?y0k3 ?y0k4 ?y0kO ?y0k5 ?y0kA ?y0kF ?y0kK ?y0k6 ?y0k7 ?y0k8 ?y0k9 ?y0kB ?y0kD ?y0kR ?_ ?y0c2 ?y0c3 ?y0c4; (case y0kA => exact rfl); (case y0kF => exact rfl); (case y0kK => assumption); (case y0k1 => k_asm); (case y0k2 => k_asm); (case y0k3 => k_asm); (case y0k4 => k_asm); (case y0kO => assumption); (case y0k5 => k_asm); (case y0k6 => k_is); (case y0k7 => k_is); (case y0k8 => ktr_room); (case y0k9 => first | exact BindsTo.of_eq rfl | exact binds_K (by k_in) rfl (by k_is) rfl rfl rfl); (case y0kB => exact rfl); (case y0kD => decide +kernel); (case y0kR => assumption); (case y0c2 => exact rfl); (case y0c3 => exact rfl); (case y0c4 => exact rfl); k_whole; intro g1 L1 h1 tk1 cells1 FG1 F1 N1 Y1 B1 X1 T1 l1 G1; (try k_lt l1); k_cells Y1; (try dsimp only [List.cons_append, List.nil_append] at N1); (try k_lift B1); (first | ((refine name_env2 ?_); intro tkE aA eE qk xE) | ((try dsimp only); (try k_fold); (try ((refine name_env ?_); intro aA eE xE)))))
    k_with "call ref" => guard_hyp tg9 : Mine.Tg 83606; ((with_reducible show wpAny _ _ (call (Value.ref 614) _) _ _ _); (first | ((((k_dflt (refine use0 (spread_ok w x t1 b hxl (by (exact om106 (by k_asm) (by k_asm))) hxa hb) (by k_asm) (by k_asm) (by k_asm) (by k_asm) (by k_asm) (by first | exact rfl | assumption) (by ktr_room) (by ktr_units) (by first | exact True.intro | assumption) ?_)); intro v9 p9 h9 tk9 F9 N9 O9 P9)); obtain ⟨Db, vb, nb, e8, f8, ob⟩ := P9) | ((((k_dflt (refine use0 (spread_ok w y t2 h hyl hhl hya hh) (by k_asm) (by k_asm) (by k_asm) (by k_asm) (by k_asm) (by first | exact rfl | assumption) (by ktr_room) (by ktr_units) (by first | exact True.intro | assumption) ?_)); intro v9 p9 h9 tk9 F9 N9 O9 P9)); obtain ⟨Dh, vh, nh, e8, f8, oh⟩ := P9)); subst e8 f8; (try dsimp only [List.cons_append, List.nil_append] at N9); (have q8 := off_all O9); (try simp +zetaDelta only [OffAll, NeAll, and_true] at q8))
    k_with "call builtin:len cons nil" => guard_hyp tg9 : Mine.Tg 83606; (refine len_at (by k_asm) (by k_mem) _ (osa_len (by with_reducible assumption)) (by (first | exact om107 (by k_asm) (by k_asm) | exact om108 (by k_asm))) ?_)
    k_steps
    exact Out.intro (by assumption) (by assumption) [] (by kqd_sub) ⟨rfl, rfl⟩
  | some z =>
    obtain ⟨tz, rfl⟩ := htv
    have hzl := hol z rfl
    k_dflt (refine' code_defWC ?y1k1 ?y1k2 ?y1k3 ?y1k4 ?y1kO ?y1k5 ?y1kA ?y1kF ?y1kK ?y1k6 ?y1k7 ?y1k8 ?y1k9 ?y1kB ?y1kD ?y1kR ?_ ?y1c2 ?y1c3 ?y1c4; (case y1kA => exact rfl); (case y1kF => exact rfl); (case y1kK => assumption); (case y1k1 => k_asm); (case y1k2 => k_asm); (case y1k3 => k_asm); (case y1k4 => k_asm); (case y1kO => assumption); (case y1k5 => k_asm); (case y1k6 => k_is); (case y1k7 => k_is); (case y1k8 => ktr_room); (case y1k9 => first | exact BindsTo.of_eq rfl | exact binds_K (by k_in) rfl (by k_is) rfl rfl rfl); (case y1kB => exact rfl); (case y1kD => decide +kernel); (case y1kR => assumption); (case y1c2 => exact rfl); (case y1c3 => exact rfl); (case y1c4 => exact rfl); k_whole; intro g1 L1 h1 tk1 cells1 FG1 F1 N1 Y1 B1 X1 T1 l1 G1; (try k_lt l1); k_cells Y1; (try dsimp only [List.cons_append, List.nil_append] at N1); (try k_lift B1); (first | ((refine name_env2 ?_); intro tkE aA eE qk xE) | ((try dsimp only); (try k_fold); (try ((refine name_env ?_); intro aA eE xE)))))
    k_with "call ref" => guard_hyp tg9 : Mine.Tg 83606; ((with_reducible show wpAny _ _ (call (Value.ref 614) _) _ _ _); (first | ((((k_dflt (refine use0 (spread_ok w x t1 b hxl (by (exact om106 (by k_asm) (by k_asm))) hxa hb) (by k_asm) (by k_asm) (by k_asm) (by k_asm) (by k_asm) (by first | exact rfl | assumption) (by ktr_room) (by ktr_units) (by first | exact True.intro | assumption) ?_)); intro v9 p9 h9 tk9 F9 N9 O9 P9)); obtain ⟨Db, vb, nb, e8, f8, ob⟩ := P9) | ((((k_dflt (refine use0 (spread_ok w y t2 h hyl hhl hya hh) (by k_asm) (by k_asm) (by k_asm) (by k_asm) (by k_asm) (by first | exact rfl | assumption) (by ktr_room) (by ktr_units) (by first | exact True.intro | assumption) ?_)); intro v9 p9 h9 tk9 F9 N9 O9 P9)); obtain ⟨Dh, vh, nh, e8, f8, oh⟩ := P9)); subst e8 f8; (try dsimp only [List.cons_append, List.nil_append] at N9); (have q8 := off_all O9); (try simp +zetaDelta only [OffAll, NeAll, and_true] at q8))
    k_with "call builtin:len cons nil" => guard_hyp tg9 : Mine.Tg 83606; (refine len_at (by k_asm) (by k_mem) _ (osa_len (by with_reducible assumption)) (by (first | exact om107 (by k_asm) (by k_asm) | exact om108 (by k_asm))) ?_)
    k_with "pyIter ref" => guard_hyp tg9 : Mine.Tg 83606; refine Halt.out ?_
    k_steps
    rename_i d9 _ o9 l9 lo9 hs9 _ _ _ _ ce _ _ dc _ _ _ _ _ _ _ hr8 F8 N8 _
    unfold Halt
    refine' for_range (n := b.length) (fun c : Obj × List (Str × Value) => [(d9, c.1), (Dh, listOf vh.toArray nh), (Db, listOf vb.toArray nb), (L1 + 1, ce)]) (fun _ => []) [] (fun j c => c.1.IsDictOf (strKind PG w) c.2 ∧ TOk (chF ((b.zip h).take j)) c.2 ∧ c.2.length ≤ j) (o9, []) (by rfl) hr8 (small_one (by (exact om2)) (by (exact om3)) (by (exact om4)) (by (exact om109 (by k_asm) (by k_asm)))) (rangeSize_nat _ _) F8 N8 (List.forall_mem_nil _) ⟨hs9, TOk.nil, Nat.le_refl _⟩ ?turn2 ?done2
    case turn2 =>
      intro c j t8 u8 h8 tk8 own8 hj hoff8 ha8 hP8 F9 N9
      (first | (refine hideW ?_; intro gG9; obtain ⟨hd9, ht9, hl9⟩ := hP8; refine (?_ : wpAny _ _ _ _ _ _); clear gG9) | obtain ⟨hd9, ht9, hl9⟩ := hP8)
      dsimp only [List.map_cons, List.map_nil, List.cons_append, List.nil_append] at hoff8 N9
      obtain ⟨bj, hbj⟩ : ∃ a, b[j]? = some a := ⟨_, List.getElem?_eq_getElem hj⟩
      obtain ⟨hj', hhj⟩ : ∃ a, h[j]? = some a := ⟨_, List.getElem?_eq_getElem (by (exact om110 (by k_asm) (by k_asm)))⟩
      obtain ⟨tb, hvb⟩ := osa_at ob hbj
      obtain ⟨th, hvh⟩ := osa_at oh hhj
      have ez : (b.zip h).take (j + 1) = (b.zip h).take j ++ [(bj, hj')] := by
        have : (b.zip h)[j]? = some (bj, hj') := by simp [List.getElem?_zip_eq_some, hbj, hhj]
        rw [List.take_add_one, this]; rfl
      k_with "subscriptTail Name Name ref int" => guard_hyp tg9 : Mine.Tg 83606; (first | (refine item_at (l := Db) (by k_asm) (by k_mem) hvb (by (exact Int.zero_add _)) (by (exact om111 hbl hhl hj)) ?_) | (refine item_at (l := Dh) (by k_asm) (by k_mem) hvh (by (exact Int.zero_add _)) (by (exact om111 hbl hhl hj)) ?_))
      k_with "setItem ref str" => guard_hyp tg9 : Mine.Tg 83606; (k_dflt (refine' kda_set (knd := strKind _ _) ?F ?N ?U hd9 (strKind_is _ _ _ _) ?z ?_; (case F => k_asm); (case N => k_asm); (case U => k_updF); (case z => rw [sizeLine_eq]; (exact om112 hbl hhl hj hl9))); intro h' o' F' N' d7')
      k_steps
      refine' turn_next (o', stored c.2 ⟨#[bj]⟩ (.str ⟨#[hj']⟩ th)) (by assumption) N' (fun p hp => List.mem_append_left own8 (as := [(d9, o'), (Dh, listOf vh.toArray nh), (Db, listOf vb.toArray nb), (L1 + 1, ce)]) hp) (fun p hp => List.mem_append_right [(d9, o'), (Dh, listOf vh.toArray nh), (Db, listOf vb.toArray nb), (L1 + 1, ce)] hp) rfl (List.forall_mem_nil _) (by (intro z; (first | intro h1 h2 h3 | intro h2 h3); (repeat (first | with_reducible rfl | exact relS h3 | refine relI (by first | with_reducible assumption | exact relN h3 (by with_unfolding_all rfl) | exact relP h2 (by with_unfolding_all rfl)) ?_ | refine relK (by first | with_reducible assumption | exact List.forall_mem_nil _ | exact relM h2 rfl) ?_ | exact rfl)); done)) ⟨d7', ?hp9, ?hl9⟩
      case hp9 =>
        rw [ez]
        exact ht9.snoc bj hj' th
      case hl9 =>
        have := stored_len c.2 ⟨#[bj]⟩ (.str ⟨#[hj']⟩ th)
        show (stored _ _ _).length ≤ j + 1
        (exact om113 (by k_asm) (by k_asm))
    case done2 =>
      intro c u8 h8 tk8 hP8 F9 N9
      (first | (refine hideW ?_; intro gG9; obtain ⟨hd9, ht9, hl9⟩ := hP8; refine (?_ : wpAny _ _ _ _ _ _); clear gG9) | obtain ⟨hd9, ht9, hl9⟩ := hP8)
      rw [List.take_of_length_le (by rw [List.length_zip]; (exact om114))] at ht9
      k_with "eval ListComp Call cons" => guard_hyp tg9 : Mine.Tg 83606; refine Halt.out ?_
      k_steps
      unfold Halt
      k_dflt (refine ListComp_T (F₀ := by k_asm) (by with_unfolding_all rfl) (by decide) (by rfl) (by decide) (by rfl) ?_)
      k_steps
      refine TextSrc.intro [(d9, c.1), (Dh, listOf vh.toArray nh), (Db, listOf vb.toArray nb), (L1 + 1, ce)] (by rfl) (by rw [sizeLine_eq]; (exact Nat.le_trans (by with_reducible assumption) (Nat.le_of_ble_eq_true rfl))) (by assumption) (by assumption) ?_
      intro g2
      refine comp_inv (σ := Unit) (fun _ => [(d9, c.1), (Dh, listOf vh.toArray nh), (Db, listOf vb.toArray nb), (L1 + 1, ce)]) (fun i ys _ => OSAre ys (((z.cps.toList.map (chF (b.zip h))).take i).map sgn)) () OSAre.nil ?turn3 ?fin3
      case turn3 =>
        intro _ i v ys I oI C oC D m₂ h11 tk11 E' hi hv hP hC hx2 F10 N10 off10 ne10
        (first | (refine hideW ?_; intro gG9; obtain ⟨cz, uz, hcz, zq1⟩ := hv; refine (?_ : wpAny _ _ _ _ _ _); clear gG9; (first | subst zq1 | cases zq1)) | obtain ⟨cz, uz, hcz, rfl⟩ := hv)
        have hq := ht9 cz
        have hgo : ∀ tt : Nat, OSAre (ys ++ [.str ⟨#[chF (b.zip h) cz]⟩ tt]) (((z.cps.toList.map (chF (b.zip h))).take (i + 1)).map sgn) := fun tt => by
          have : (z.cps.toList.map (chF (b.zip h)))[i]? = some (chF (b.zip h) cz) := by simp [hcz]
          rw [List.take_add_one, this, List.map_append]
          exact OSAre.snoc hP ⟨tt, rfl⟩
        k_with "CompEnd" => guard_hyp tg9 : Mine.Tg 83606; refine Halt.out ?_
        cases hv9 : valueAt c.2 (⟨#[cz]⟩ : Str) with
        | none =>
          rw [hv9] at hq
          have hq' : chF (b.zip h) cz = cz := hq
          k_with "call builtin:dict.get cons nil" => guard_hyp tg9 : Mine.Tg 83606; (refine kdg_get2 (by k_asm) (by k_mem) hd9 lo9 (strKind_is _ _ _ _) none hv9 ?_)
          k_steps
          unfold Halt
          refine LCg.CompEnd.intro (by assumption) N10 _ (fun _ h => h) off10 trivial ⟨(), rfl, ?_⟩
          have := hgo uz
          rw [hq'] at this
          exact this
        | some v9 =>
          rw [hv9] at hq
          obtain ⟨t9, rfl⟩ := hq
          k_with "call builtin:dict.get cons nil" => guard_hyp tg9 : Mine.Tg 83606; (refine kdg_get2 (by k_asm) (by k_mem) hd9 lo9 (strKind_is _ _ _ _) (some _) hv9 ?_)
          k_steps
          unfold Halt
          exact LCg.CompEnd.intro (by assumption) N10 _ (fun _ h => h) off10 trivial ⟨(), rfl, hgo t9⟩
      case fin3 =>
        intro ys _ hP
        rw [List.take_of_length_le (by simp)] at hP
        unfold LCg.FinE
        intro D3 h3 tk3 F10 N10 o10
        k_with "call builtin:str.join cons nil" => guard_hyp tg9 : Mine.Tg 83606; (refine join_at (by k_asm) (by k_mem) hP (by rw [List.length_map]; simp [Str.length] at hzl ⊢; (exact Nat.le_trans (by with_reducible assumption) (Nat.le_of_ble_eq_true rfl))) ?_; intro t7 k7)
        k_steps
        exact Out.intro (by assumption) (by assumption) [] (by kqd_sub) ⟨⟨_, rfl⟩, rfl⟩

end

section
-- part UniqP
/-! names made unique, plainly -/
noncomputable def numT (k : Nat) : Str := Str.ofString (toString (k : Int))
noncomputable def cand (x sep : Str) (k : Nat) : Str := x ++ sep ++ numT k
theorem numT_inj : ∀ i : Nat, i < 24 → ∀ j : Nat, j < 24 → numT i = numT j → i = j := by decide +kernel
theorem cat_list (x y : Str) : (x ++ y).cps.toList = x.cps.toList ++ y.cps.toList := by rw [Str.cps_append]; simp
theorem cat_inj {a x y : Str} (h : a ++ x = a ++ y) : x = y := by
  apply str_eq
  have := congrArg (fun z => z.cps.toList) h
  simp only [cat_list] at this
  exact List.append_cancel_left this
theorem cand_inj {x sep : Str} {i j : Nat} (hi : i < 24) (hj : j < 24) (h : cand x sep i = cand x sep j) : i = j := numT_inj i hi j hj (cat_inj h)
theorem cands_le {x sep : Str} {k : Nat} {l : List Str} (hl : l.length ≤ 16) (h : ∀ i, 1 ≤ i → i < k → cand x sep i ∈ l) : k ≤ l.length + 1 := by
  refine Nat.le_of_not_lt fun hk => ?_
  have hn : ((List.range' 1 (l.length + 1)).map (cand x sep)).Nodup := by
    rw [List.nodup_iff_pairwise_ne, List.pairwise_map]
    refine List.Pairwise.imp_of_mem ?_ (List.nodup_range' (s := 1) (n := l.length + 1) (step := 1) (by decide))
    intro a b ha hb hne e
    rw [List.mem_range'] at ha hb
    obtain ⟨u, hu, rfl⟩ := ha
    obtain ⟨v, hv, rfl⟩ := hb
    exact hne (cand_inj (by (exact om287 (by k_asm) (by k_asm))) (by (exact om287 (by k_asm) (by k_asm))) e)
  have hs : ((List.range' 1 (l.length + 1)).map (cand x sep)) ⊆ l := by
    intro z hz
    obtain ⟨i, hi, rfl⟩ := List.mem_map.mp hz
    rw [List.mem_range'] at hi
    obtain ⟨u, hu, rfl⟩ := hi
    exact h _ (by (exact Nat.le_add_right _ _)) (by (exact om288 (by k_asm) (by k_asm)))
  have := List.Nodup.length_le_of_subset hn hs
  rw [List.length_map, List.length_range'] at this
  (exact om289 (by k_asm))
/-- the first j names done: the texts made, the row told -/
inductive MkU (ns : List Str) (sep : Str) : Nat → List Str → List Str → Prop
  | zero : MkU ns sep 0 [] []
  | first {j : Nat} {fr fo : List Str} {x : Str} : MkU ns sep j fr fo → ns[j]? = some x → x ∉ ns.take j → MkU ns sep (j + 1) fr (fo ++ [x])
  | again {j : Nat} {fr fo : List Str} {x : Str} {k : Nat} : MkU ns sep j fr fo → ns[j]? = some x → x ∈ ns.take j → 1 ≤ k → cand x sep k ∉ ns ++ fr → (∀ i, 1 ≤ i → i < k → cand x sep i ∈ ns ++ fr) →
      MkU ns sep (j + 1) (fr ++ [cand x sep k]) (fo ++ [cand x sep k])
theorem MkU.len {ns : List Str} {sep : Str} {j : Nat} {fr fo : List Str} (h : MkU ns sep j fr fo) : fr.length ≤ j ∧ fo.length = j := by
  induction h with
  | zero => exact ⟨Nat.le_refl _, rfl⟩
  | first _ _ _ ih => rw [List.length_append]; exact ⟨by (exact om290 (by k_asm)), by have := ih.2; simp [this]⟩
  | again _ _ _ _ _ _ ih => rw [List.length_append, List.length_append]; exact ⟨by have := ih.1; simp; (with_reducible assumption), by have := ih.2; simp [this]⟩
theorem MkU.det {ns : List Str} {sep : Str} {j : Nat} {fr fo fr' fo' : List Str} (h : MkU ns sep j fr fo) (h' : MkU ns sep j fr' fo') : fr = fr' ∧ fo = fo' := by
  induction h generalizing fr' fo' with
  | zero => cases h'; exact ⟨rfl, rfl⟩
  | first _ hx hn ih =>
    cases h' with
    | first h2 hx2 _ =>
      obtain ⟨rfl, rfl⟩ := ih h2
      rw [hx] at hx2; cases hx2
      exact ⟨rfl, rfl⟩
    | again h2 hx2 hi =>
      rw [hx] at hx2; cases hx2
      exact absurd hi hn
  | @again _ _ _ _ k _ hx hi h1 hk hlt ih =>
    cases h' with
    | first h2 hx2 hn =>
      rw [hx] at hx2; cases hx2
      exact absurd hi hn
    | @again _ _ _ _ k' h2 hx2 hi2 h12 hk2 hlt2 =>
      obtain ⟨rfl, rfl⟩ := ih h2
      rw [hx] at hx2; cases hx2
      have : k = k' := by
        rcases Nat.lt_trichotomy k k' with q | q | q
        · exact absurd (hlt2 k h1 q) hk
        · exact q
        · exact absurd (hlt k' h12 q) hk2
      subst this
      exact ⟨rfl, rfl⟩
/-- no two alike -/
theorem MkU.nodup {ns : List Str} {sep : Str} {j : Nat} {fr fo : List Str} (h : MkU ns sep j fr fo) : fo.Nodup ∧ (∀ x ∈ fo, x ∈ ns.take j ∨ x ∈ fr) ∧ ∀ x ∈ fr, x ∉ ns := by
  induction h with
  | zero => exact ⟨List.nodup_nil, fun _ h => (by simp at h), fun _ h => (by simp at h)⟩
  | @first j fr fo x h0 hx hn ih =>
    obtain ⟨i1, i2, i3⟩ := ih
    have hm : x ∈ ns := List.mem_of_getElem? hx
    have ht : ns.take (j + 1) = ns.take j ++ [x] := by rw [List.take_add_one, hx]; rfl
    refine ⟨?_, ?_, i3⟩
    · rw [List.nodup_append]
      refine ⟨i1, by simp, ?_⟩
      intro a ha b hb e
      obtain rfl := List.mem_singleton.mp hb
      subst e
      rcases i2 a ha with q | q
      · exact hn q
      · exact i3 a q hm
    · intro z hz
      rw [ht]
      rcases List.mem_append.mp hz with hz | hz
      · rcases i2 z hz with q | q
        · exact .inl (List.mem_append_left _ q)
        · exact .inr q
      · exact .inl (List.mem_append_right _ hz)
  | @again j fr fo x k h0 hx hi h1 hk hlt ih =>
    obtain ⟨i1, i2, i3⟩ := ih
    have ht : ns.take (j + 1) = ns.take j ++ [x] := by rw [List.take_add_one, hx]; rfl
    have htn : ∀ z ∈ ns.take j, z ∈ ns := fun z hz => List.mem_of_mem_take hz
    refine ⟨?_, ?_, ?_⟩
    · rw [List.nodup_append]
      refine ⟨i1, by simp, ?_⟩
      intro a ha b hb e
      obtain rfl := List.mem_singleton.mp hb
      subst e
      rcases i2 _ ha with q | q
      · exact hk (List.mem_append_left _ (htn _ q))
      · exact hk (List.mem_append_right _ q)
    · intro z hz
      rw [ht]
      rcases List.mem_append.mp hz with hz | hz
      · rcases i2 z hz with q | q
        · exact .inl (List.mem_append_left _ q)
        · exact .inr (List.mem_append_left _ q)
      · exact .inr (List.mem_append_right _ hz)
    · intro z hz
      rcases List.mem_append.mp hz with hz | hz
      · exact i3 z hz
      · rw [List.mem_singleton.mp hz]
        exact fun q => hk (List.mem_append_left _ q)
/-- names that are unique stay -/
theorem MkU.same {ns : List Str} {sep : Str} (hn : ns.Nodup) : ∀ j, j ≤ ns.length → MkU ns sep j [] (ns.take j)
  | 0, _ => .zero
  | j + 1, h => by
    have hx : ns[j]? = some ns[j] := List.getElem?_eq_getElem (by (exact om291 (by k_asm)))
    have ht : ns.take (j + 1) = ns.take j ++ [ns[j]] := by rw [List.take_add_one, hx]; rfl
    rw [ht]
    refine .first (MkU.same hn j (by (exact om292 (by k_asm)))) hx fun hm => ?_
    obtain ⟨i, hi, e⟩ := List.mem_take_iff_getElem.mp hm
    exact List.pairwise_iff_getElem.mp (List.nodup_iff_pairwise_ne.mp hn) i j (by (exact om160 (by k_asm))) (by (exact om291 (by k_asm))) (by (exact om161 (by k_asm))) e
/-- a dict's keys -/
noncomputable def DKeys (es : List (Str × Value)) (ks : List Str) : Prop := ∀ y, (valueAt es y).isSome = true ↔ y ∈ ks
theorem DKeys.nil : DKeys [] [] := fun _ => ⟨fun h => (by simp [valueAt] at h), fun h => (by simp at h)⟩
theorem DKeys.set {es : List (Str × Value)} {ks : List Str} (h : DKeys es ks) (x : Str) (v : Value) : DKeys (stored es x v) (ks ++ [x]) := by
  intro y
  rw [valueAt_stored]
  by_cases e : x = y
  · rw [if_pos e]; simp [e]
  · rw [if_neg e, h y, List.mem_append, List.mem_singleton]
    exact ⟨.inl, fun q => q.elim id fun q => absurd q.symm e⟩
theorem DKeys.congr {es : List (Str × Value)} {ks ks' : List Str} (h : DKeys es ks) (e : ∀ y, y ∈ ks ↔ y ∈ ks') : DKeys es ks' := fun y => (h y).trans (e y)
theorem DKeys.has {es : List (Str × Value)} {ks : List Str} (h : DKeys es ks) {x : Str} (hx : x ∈ ks) : (valueAt es x).isSome = true := (h x).mpr hx
theorem DKeys.not {es : List (Str × Value)} {ks : List Str} (h : DKeys es ks) {x : Str} (hx : x ∉ ks) : (valueAt es x).isSome = false := by
  cases q : (valueAt es x).isSome with
  | false => rfl
  | true => exact absurd ((h x).mp q) hx
/-- what the counts know: all lesser numbers are taken -/
noncomputable def CInv (sep : Str) (tk : List Str) (ces : List (Str × Value)) : Prop := ∀ y, match valueAt ces y with | none => True | some v => ∃ (k : Nat) (t : Nat), v = .int (k : Int) t ∧ 1 ≤ k ∧ ∀ i, 1 ≤ i → i < k → cand y sep i ∈ tk
theorem CInv.grow {sep : Str} {tk tk' : List Str} {ces : List (Str × Value)} (h : CInv sep tk ces) (e : ∀ y ∈ tk, y ∈ tk') : CInv sep tk' ces := by
  intro y
  have := h y
  cases q : valueAt ces y with
  | none => trivial
  | some v =>
    rw [q] at this
    obtain ⟨k, t, a, b, c⟩ := this
    exact ⟨k, t, a, b, fun i h1 h2 => e _ (c i h1 h2)⟩
theorem CInv.set {sep : Str} {tk : List Str} {ces : List (Str × Value)} (h : CInv sep tk ces) (x : Str) (k t : Nat) (h1 : 1 ≤ k) (hk : ∀ i, 1 ≤ i → i < k → cand x sep i ∈ tk) : CInv sep tk (stored ces x (.int (k : Int) t)) := by
  intro y
  rw [valueAt_stored]
  by_cases e : x = y
  · rw [if_pos e]; subst e; exact ⟨k, t, rfl, h1, hk⟩
  · rw [if_neg e]; exact h y
theorem CInv.get {sep : Str} {tk : List Str} {ces : List (Str × Value)} (h : CInv sep tk ces) (x : Str) (t0 : Nat) : ∃ (k : Nat) (t : Nat), (valueAt ces x).getD (.int 1 t0) = .int (k : Int) t ∧ 1 ≤ k ∧ ∀ i, 1 ≤ i → i < k → cand x sep i ∈ tk := by
  have := h x
  cases q : valueAt ces x with
  | none => exact ⟨1, t0, rfl, Nat.le_refl _, fun i h1 h2 => by (exact (om293 (by k_asm) (by k_asm)).elim)⟩
  | some v =>
    rw [q] at this
    obtain ⟨k, t, rfl, b, c⟩ := this
    exact ⟨k, t, rfl, b, c⟩

end

section
-- part Uniq
structure UqC where
  vs : List Value
  n : Nat
  tkO : Obj
  tes : List (Str × Value)
  snO : Obj
  ses : List (Str × Value)
  ctO : Obj
  ces : List (Str × Value)
  fr : List Str
  fo : List Str
theorem get_count {prog : Program} {w : World} {A : Around} {E : Value → Shared → Prop} {s : Shared} {h₀ : Heap} {L d : Addr} {news : List (Addr × Obj)} {o : Obj} {ces : List (Str × Value)} {x sep : Str} {tx t0 : Tok} {tk : List Str} {Q : Value → Shared → Prop}
    (N : News h₀ L s.heap news) (hm : (d, o) ∈ news) (hd : o.IsDictOf (strKind prog w) ces) (lo : (d == sysModules) = false) (ck : CInv sep tk ces)
    (h : ∀ (k t : Nat), 1 ≤ k → (∀ i, 1 ≤ i → i < k → cand x sep i ∈ tk) → Q (.int (k : Int) t) { s with toks := s.toks + 1 }) :
    wpAny (model prog w) A (call (.builtin "dict.get") [.ref d, .str x tx, .int 1 t0]) Q E s := by
  (first | (refine hideW ?_; intro gG9; obtain ⟨k, t, e, h1, h2⟩ := ck.get x t0; refine (?_ : wpAny _ _ _ _ _ _); clear gG9) | obtain ⟨k, t, e, h1, h2⟩ := ck.get x t0)
  refine kdg_get2 (knd := strKind _ _) N hm hd lo (strKind_is _ _ _ _) (valueAt ces x) rfl ?_
  rw [e]
  exact h k t h1 h2
/-- what holds between the names -/
noncomputable def UqI (w : World) (ns : List Str) (sep : Str) (j : Nat) (c : UqC) : Prop :=
  (c.tkO.IsDictOf (strKind PG w) c.tes ∧ DKeys c.tes (ns ++ c.fr) ∧ c.tes.length ≤ 7 + j) ∧ (c.snO.IsDictOf (strKind PG w) c.ses ∧ DKeys c.ses (ns.take j ++ c.fr) ∧ c.ses.length ≤ j) ∧
  (c.ctO.IsDictOf (strKind PG w) c.ces ∧ CInv sep (ns ++ c.fr) c.ces ∧ c.ces.length ≤ j) ∧ OSAre c.vs (c.fo.map some) ∧ MkU ns sep j c.fr c.fo
set_option maxRecDepth 100000 in
set_option maxHeartbeats 2000000 in
theorem unique_ok (w : World) (Nm : Addr) (nvs : List Value) (ns : List Str) (nn : Nat) (sep : Str) (ts : Nat) (hn : OSAre nvs (ns.map some)) (hl : ns.length ≤ 7) (hx : ∀ x ∈ ns, x.length ≤ 40) (hsl : sep.length ≤ 2) :
  CallsOk w 626 [.ref Nm, .str sep ts] 20 1000 [(Nm, listOf nvs.toArray nn)] (fun _ => True)
    (fun v post => ∃ D vs n fr fo, v = .ref D ∧ post = [(D, listOf vs.toArray n), (Nm, listOf nvs.toArray nn)] ∧ OSAre vs (fo.map some) ∧ MkU ns sep ns.length fr fo) := by
  unfold CallsOk
  have tg9 : Mine.Tg 8083 := tgI 8083
  k_fill
  intro p loose mean mg mb dp un gd cn cs a ccd cl outer A₀ base h₀ L m rest s Q E B F X N hoff T hk hd hu hy hret
  refine wpAny_call ?_
  k_dflt (refine' code_defW ?y0k1 ?y0k2 ?y0k3 ?y0k4 ?y0kO ?y0k5 ?y0kA ?y0kF ?y0kK ?y0k6 ?y0k7 ?y0k8 ?y0k9 ?y0kB ?y0kR ?_ ?y0c2 ?y0c3 ?y0c4 ?y0c5; (case y0kA => exact rfl); (case y0kF => exact rfl); (case y0kK => assumption); (case y0k1 => k_asm); (case y0k2 => k_asm); (case y0k3 => k_asm); (case y0k4 => k_asm); (case y0kO => assumption); (case y0k5 => k_asm); (case y0k6 => k_is); (case y0k7 => k_is); (case y0k8 => ktr_room); (case y0k9 => first | exact BindsTo.of_eq rfl | exact binds_K (by k_in) rfl (by k_is) rfl rfl rfl); (case y0c5 => decide); (case y0kB => exact locs rfl); (case y0kR => assumption); (case y0c2 => exact rfl); (case y0c3 => exact rfl); (case y0c4 => exact rfl); k_whole; intro g1 L1 h1 FG1 F1 N1 B1 X1 T1 G1; (try k_lift B1); (first | ((refine name_env2 ?_); intro tkE aA eE qk xE) | ((try dsimp only); (try k_fold); (try ((refine name_env ?_); intro aA eE xE)))))
  k_with "pyIter ref" => guard_hyp tg9 : Mine.Tg 8083; refine Halt.out ?_
  k_steps
  rename_i dT _ oT lT loT hsT _ _ _ _ _ N5 _ _ _ F5 _
  unfold Halt
  have item : ∀ {i : Nat} {v : Value}, nvs[i]? = some v → ∃ x t, ns[i]? = some x ∧ v = .str x t := by
    intro i v hv
    (first | (refine hideW ?_; intro gG9; obtain ⟨o, ho, hov⟩ := hn.2 i v hv; refine (?_ : wpAny _ _ _ _ _ _); clear gG9) | obtain ⟨o, ho, hov⟩ := hn.2 i v hv)
    rw [List.getElem?_map] at ho
    cases q : ns[i]? with
    | none => rw [q] at ho; cases ho
    | some x => rw [q] at ho; cases ho; obtain ⟨t, rfl⟩ := hov; exact ⟨x, t, rfl, rfl⟩
  have hvl : nvs.length = ns.length := by rw [hn.1, List.length_map]
  refine' for_listL (l := Nm) (vs := nvs) (nn := nn) (fun c : Obj × List (Str × Value) => [(dT, c.1), (Nm, listOf nvs.toArray nn)]) (fun _ => []) [] (fun j c => c.1.IsDictOf (strKind PG w) c.2 ∧ DKeys c.2 (ns.take j) ∧ c.2.length ≤ j) (oT, []) (by rfl) (fun _ => .tail _ (.head _)) F5 N5 (List.forall_mem_nil _) ⟨hsT, DKeys.nil, Nat.le_refl _⟩ ?turn1 ?done1
  case turn1 =>
    intro c j v u h4 tk4 own hj hv4 hoff4 ha4 hP F4 N4
    (first | (refine hideW ?_; intro gG9; obtain ⟨hd4, hk4, hl4⟩ := hP; refine (?_ : wpAny _ _ _ _ _ _); clear gG9) | obtain ⟨hd4, hk4, hl4⟩ := hP)
    (first | (refine hideW ?_; intro gG9; obtain ⟨x, tx, hxj, zq1⟩ := item hv4; refine (?_ : wpAny _ _ _ _ _ _); clear gG9; (first | subst zq1 | cases zq1)) | obtain ⟨x, tx, hxj, rfl⟩ := item hv4)
    dsimp only [List.map_cons, List.map_nil, List.cons_append, List.nil_append] at hoff4 N4
    k_with "setItem ref str" => guard_hyp tg9 : Mine.Tg 8083; (k_dflt (refine' kda_set (knd := strKind _ _) ?F ?N ?U hd4 (strKind_is _ _ _ _) ?z ?_; (case F => k_asm); (case N => k_asm); (case U => k_updF); (case z => rw [sizeLine_eq]; (exact om115 (by k_asm) (by k_asm) (by k_asm) (by k_asm)))); intro h' o' F' N' d7')
    k_steps
    refine' turn_next (o', stored c.2 x (.bool true)) (by assumption) N' (fun p hp => List.mem_append_left own (as := [(dT, o'), (Nm, listOf nvs.toArray nn)]) hp) (fun p hp => List.mem_append_right [(dT, o'), (Nm, listOf nvs.toArray nn)] hp) rfl (List.forall_mem_nil _) (by (intro z; (first | intro h1 h2 h3 | intro h2 h3); (repeat (first | with_reducible rfl | exact relS h3 | refine relI (by first | with_reducible assumption | exact relN h3 (by with_unfolding_all rfl) | exact relP h2 (by with_unfolding_all rfl)) ?_ | refine relK (by first | with_reducible assumption | exact List.forall_mem_nil _ | exact relM h2 rfl) ?_ | exact rfl)); done)) ⟨d7', ?hp9, ?hl9⟩
    case hp9 =>
      rw [List.take_add_one, hxj]
      exact hk4.set x _
    case hl9 =>
      have := stored_len c.2 x (.bool true)
      show (stored _ _ _).length ≤ j + 1
      (exact om113 (by k_asm) (by k_asm))
  case done1 =>
    intro c u h4 tk4 hP F4 N4
    (first | (refine hideW ?_; intro gG9; obtain ⟨hd4, hk4, hl4⟩ := hP; refine (?_ : wpAny _ _ _ _ _ _); clear gG9) | obtain ⟨hd4, hk4, hl4⟩ := hP)
    rw [hvl, List.take_length] at hk4
    k_with "pyIter ref" => guard_hyp tg9 : Mine.Tg 8083; refine Halt.out ?_
    k_steps
    rename_i dS _ oS _ _ lS loS hsS _ _ _ _ _ _ _ dC _ oC lC loC hsC _ _ _ _ _ _ Fo _ lF _ _ N6 _ _ _ F6 _
    unfold Halt
    refine' for_listL (l := Nm) (vs := nvs) (nn := nn) (fun c : UqC => [(Fo, listOf c.vs.toArray c.n), (dC, c.ctO), (dS, c.snO), (dT, c.tkO), (Nm, listOf nvs.toArray nn)]) (fun _ => []) [Str.ofString "number", Str.ofString "fresh"] (UqI w ns sep) ⟨[], 0, c.1, c.2, oS, [], oC, [], [], []⟩ (by rfl) (fun _ => .tail _ (.tail _ (.tail _ (.tail _ (.head _))))) F6 N6 (List.forall_mem_nil _) ⟨⟨hd4, by simpa using hk4, by show c.2.length ≤ 7; (exact om116 (by k_asm) (by k_asm) (by k_asm))⟩, ⟨hsS, DKeys.nil, Nat.le_refl _⟩, ⟨hsC, fun _ => trivial, Nat.le_refl _⟩, OSAre.nil, .zero⟩ ?turn2 ?done2
    case turn2 =>
      intro c2 j v u2 h5 tk5 own hj hv5 hoff5 ha5 hP5 F7 N7
      (first | (refine hideW ?_; intro gG9; obtain ⟨⟨td, kT, lenT⟩, ⟨sd, kS, lenS⟩, ⟨cd, kC, lenC⟩, fok, mk⟩ := hP5; refine (?_ : wpAny _ _ _ _ _ _); clear gG9) | obtain ⟨⟨td, kT, lenT⟩, ⟨sd, kS, lenS⟩, ⟨cd, kC, lenC⟩, fok, mk⟩ := hP5)
      (first | (refine hideW ?_; intro gG9; obtain ⟨x, tx, hxj, zq1⟩ := item hv5; refine (?_ : wpAny _ _ _ _ _ _); clear gG9; (first | subst zq1 | cases zq1)) | obtain ⟨x, tx, hxj, rfl⟩ := item hv5)
      have hxm : x ∈ ns := List.mem_of_getElem? hxj
      have hxl := hx x hxm
      have hnd := mk.nodup
      have hml := mk.len
      have hvsl : c2.vs.length ≤ 7 := by have := fok.1; rw [List.length_map] at this; (exact om117 (by k_asm) (by k_asm) (by k_asm) (by k_asm) (by k_asm))
      have hjn : j < ns.length := by (exact om118 (by k_asm) (by k_asm))
      have ht1 : ns.take (j + 1) = ns.take j ++ [x] := by rw [List.take_add_one, hxj]; rfl
      dsimp only [List.map_cons, List.map_nil, List.cons_append, List.nil_append] at hoff5 N7
      k_with "setItem ref str" => guard_hyp tg9 : Mine.Tg 8083; (first
        | (k_dflt (refine' kda_set (knd := strKind _ _) ?F ?N ?U sd (strKind_is _ _ _ _) ?z ?_; (case F => k_asm); (case N => k_asm); (case U => k_updF); (case z => rw [sizeLine_eq]; (exact om115 hl hvl hj lenS))); intro hs' os' F' N' ds')
        | (k_dflt (refine' kda_set (knd := strKind _ _) ?F ?N ?U cd (strKind_is _ _ _ _) ?z ?_; (case F => k_asm); (case N => k_asm); (case U => k_updF); (case z => rw [sizeLine_eq]; (exact om115 hl hvl hj lenC))); intro hc' oc' F' N' dc')
        | (k_dflt (refine' kda_set (knd := strKind _ _) ?F ?N ?U td (strKind_is _ _ _ _) ?z ?_; (case F => k_asm); (case N => k_asm); (case U => k_updF); (case z => rw [sizeLine_eq]; (exact om119 hl hvl hj lenT))); intro ht' ot' F' N' dt'))
      by_cases hin : x ∈ ns.take j
      · k_with "compareOp NotIn str ref" => guard_hyp tg9 : Mine.Tg 8083; (refine kdg_notin (knd := strKind _ _) (by k_asm) (by k_mem) sd loS (strKind_is _ _ _ _) true (kS.has (List.mem_append_left _ hin)) ?_)
        k_with "exec While Compare cons nil" => guard_hyp tg9 : Mine.Tg 8083; refine Halt.out ?_
        k_with "call builtin:dict.get cons nil" => guard_hyp tg9 : Mine.Tg 8083; (refine get_count (by k_asm) (by k_mem) cd loC kC ?_; intro k0 t0 hk1 hkall)
        k_steps
        rename Fr _ _ _ _ => F8
        rename News _ _ _ _ => N8
        unfold Halt
        refine' ksw_while (fun _ : Nat × Nat => (Fo, listOf c2.vs.toArray c2.n) :: (dC, c2.ctO) :: (dS, c2.snO) :: (dT, c2.tkO) :: (Nm, listOf nvs.toArray nn) :: own) (fun c => [(Str.ofString "number", .int (c.1 : Int) c.2)]) (fun _ => True) [] (fun c => 1 ≤ c.1 ∧ ∀ i, 1 ≤ i → i < c.1 → cand x sep i ∈ ns ++ c2.fr) (fun c => (ns ++ c2.fr).length + 2 - c.1) (k0, t0) F8 N8 trivial ?hk1 ⟨hk1, hkall⟩ ?turn3
        case hk1 => tb_start
        case turn3 =>
          intro c3 u3 h6 tk6 _ hP6 F9 N9
          obtain ⟨q1, q2⟩ := hP6
          have hle := cands_le (l := ns ++ c2.fr) (by rw [List.length_append]; (exact om120 (by k_asm) (by k_asm) (by k_asm) (by k_asm))) q2
          rw [List.length_append] at hle
          by_cases hc : cand x sep c3.1 ∈ ns ++ c2.fr
          · k_with "compareOp In str ref" => guard_hyp tg9 : Mine.Tg 8083; (refine kda_in (knd := strKind _ _) (by k_asm) (by k_mem) td loT (strKind_is _ _ _ _) true (kT.has hc) ?_)
            k_steps
            refine haltI ?_
            refine' ksw_end (c3.1 + 1, _) (by assumption) (by assumption) (fun _ h => h) trivial ?hk4 (by (intro z; (first | intro h1 h2 h3 | intro h2 h3); (refine Eq.symm ?_); (repeat (first | with_reducible rfl | refine relI (by first | with_reducible assumption | exact relN h3 (by with_unfolding_all rfl) | exact relP h2 (by with_unfolding_all rfl)) ?_ | refine relK (by first | with_reducible assumption | exact List.forall_mem_nil _ | exact relM h2 rfl) ?_ | exact rfl)); (refine Eq.symm ?_); (repeat (first | with_reducible rfl | exact relS h3 | refine relI (by first | with_reducible assumption | exact relN h3 (by with_unfolding_all rfl) | exact relP h2 (by with_unfolding_all rfl)) ?_ | refine relK (by first | with_reducible assumption | exact List.forall_mem_nil _ | exact relM h2 rfl) ?_ | exact rfl)); done)) ⟨Nat.le_add_left _ _, fun i h1 h2 => ?hq4⟩ (by show (ns ++ c2.fr).length + 2 - (c3.1 + 1) < (ns ++ c2.fr).length + 2 - c3.1; rw [List.length_append]; (exact om18 (by k_asm)))
            case hk4 => tb_start
            case hq4 =>
              rcases Nat.lt_or_ge i c3.1 with h3 | h3
              · exact q2 i h1 h3
              · have h2' : i < c3.1 + 1 := h2
                obtain rfl : i = c3.1 := by omega
                exact hc
          · k_with "compareOp In str ref" => guard_hyp tg9 : Mine.Tg 8083; (refine kda_in (knd := strKind _ _) (by k_asm) (by k_mem) td loT (strKind_is _ _ _ _) false (kT.not hc) ?_)
            k_steps
            rename News _ _ _ _ => N10
            simp +zetaDelta only [List.push_toArray] at N10
            have hkl : ∀ i, 1 ≤ i → i < c3.1 + 1 → cand x sep i ∈ ns ++ (c2.fr ++ [cand x sep c3.1]) := fun i h1 h2 => by
              rw [← List.append_assoc]
              rcases Nat.lt_or_ge i c3.1 with h3 | h3
              · exact List.mem_append_left _ (q2 i h1 h3)
              · obtain rfl : i = c3.1 := by (exact om121 (by k_asm) (by k_asm))
                exact List.mem_append_right _ (.head _)
            refine' turn_next ⟨c2.vs ++ [Value.str (cand x sep c3.1) _], c2.n + 1, ot', stored c2.tes (cand x sep c3.1) (.bool true), os', stored c2.ses (cand x sep c3.1) (.bool true), oc', stored c2.ces x (.int ((c3.1 + 1 : Nat) : Int) _), c2.fr ++ [cand x sep c3.1], c2.fo ++ [cand x sep c3.1]⟩ (by assumption) N10 (fun p hp => List.mem_append_left own (as := [(Fo, listOf (c2.vs ++ [Value.str (cand x sep c3.1) _]).toArray (c2.n + 1)), (dC, oc'), (dS, os'), (dT, ot'), (Nm, listOf nvs.toArray nn)]) hp) (fun p hp => List.mem_append_right [(Fo, listOf (c2.vs ++ [Value.str (cand x sep c3.1) _]).toArray (c2.n + 1)), (dC, oc'), (dS, os'), (dT, ot'), (Nm, listOf nvs.toArray nn)] hp) rfl (List.forall_mem_nil _) (by (intro z; (first | intro h1 h2 h3 | intro h2 h3); (repeat (first | with_reducible rfl | exact relS h3 | refine relI (by first | with_reducible assumption | exact relN h3 (by with_unfolding_all rfl) | exact relP h2 (by with_unfolding_all rfl)) ?_ | refine relK (by first | with_reducible assumption | exact List.forall_mem_nil _ | exact relM h2 rfl) ?_ | exact rfl)); done)) ⟨⟨dt', ?ht9, ?hlt9⟩, ⟨ds', ?hs9, ?hl9⟩, ⟨dc', ?hc9, ?hlc9⟩, ?hf9, mk.again hxj hin q1 hc q2⟩
            case ht9 =>
              have := kT.set (cand x sep c3.1) (.bool true)
              rw [List.append_assoc] at this
              exact this
            case hlt9 =>
              have := stored_len c2.tes (cand x sep c3.1) (.bool true)
              show (stored _ _ _).length ≤ 7 + (j + 1)
              (exact om122 (by k_asm) (by k_asm))
            case hs9 =>
              rw [ht1]
              exact (kS.set (cand x sep c3.1) (.bool true)).congr fun y => by
                simp only [List.mem_append, List.mem_singleton]
                constructor
                · rintro ((q | q) | q)
                  · exact .inl (.inl q)
                  · exact .inr (.inl q)
                  · exact .inr (.inr q)
                · rintro ((q | q) | (q | q))
                  · exact .inl (.inl q)
                  · exact .inl (.inl (q ▸ hin))
                  · exact .inl (.inr q)
                  · exact .inr q
            case hl9 =>
              have := stored_len c2.ses (cand x sep c3.1) (.bool true)
              show (stored _ _ _).length ≤ j + 1
              (exact om113 lenS this)
            case hc9 =>
              exact (kC.grow fun y hy => by rw [← List.append_assoc]; exact List.mem_append_left _ hy).set x (c3.1 + 1) _ (by (exact Nat.le_of_ble_eq_true rfl)) hkl
            case hlc9 =>
              have := stored_len c2.ces x (.int ((c3.1 + 1 : Nat) : Int) 0)
              have e : ∀ v v' : Value, (stored c2.ces x v).length = (stored c2.ces x v').length := fun v v' => by
                unfold stored
                split <;> simp
              show (stored _ _ _).length ≤ j + 1
              rw [e _ (.int ((c3.1 + 1 : Nat) : Int) 0)]
              (exact om113 (by k_asm) (by k_asm))
            case hf9 =>
              show OSAre _ ((c2.fo ++ [cand x sep c3.1]).map some)
              rw [List.map_append]
              exact OSAre.snoc fok ⟨_, rfl⟩
      · have hxs : x ∉ ns.take j ++ c2.fr := fun q => (List.mem_append.mp q).elim hin fun q => hnd.2.2 x q hxm
        k_with "compareOp NotIn str ref" => guard_hyp tg9 : Mine.Tg 8083; (refine kdg_notin (knd := strKind _ _) (by k_asm) (by k_mem) sd loS (strKind_is _ _ _ _) false (kS.not hxs) ?_)
        k_steps
        rename News _ _ _ _ => N10
        simp +zetaDelta only [List.push_toArray] at N10
        refine' turn_cont ⟨c2.vs ++ [.str x tx], c2.n + 1, c2.tkO, c2.tes, os', stored c2.ses x (.bool true), c2.ctO, c2.ces, c2.fr, c2.fo ++ [x]⟩ (by assumption) N10 (fun p hp => List.mem_append_left own (as := [(Fo, listOf (c2.vs ++ [Value.str x tx]).toArray (c2.n + 1)), (dC, c2.ctO), (dS, os'), (dT, c2.tkO), (Nm, listOf nvs.toArray nn)]) hp) (fun p hp => List.mem_append_right [(Fo, listOf (c2.vs ++ [Value.str x tx]).toArray (c2.n + 1)), (dC, c2.ctO), (dS, os'), (dT, c2.tkO), (Nm, listOf nvs.toArray nn)] hp) rfl (List.forall_mem_nil _) (by (intro z; (first | intro h1 h2 h3 | intro h2 h3); (repeat (first | with_reducible rfl | exact relS h3 | refine relI (by first | with_reducible assumption | exact relN h3 (by with_unfolding_all rfl) | exact relP h2 (by with_unfolding_all rfl)) ?_ | refine relK (by first | with_reducible assumption | exact List.forall_mem_nil _ | exact relM h2 rfl) ?_ | exact rfl)); done)) ⟨⟨td, kT, by show c2.tes.length ≤ 7 + (j + 1); (exact om123 (by k_asm))⟩, ⟨ds', ?hs9, ?hl9⟩, ⟨cd, kC, by show c2.ces.length ≤ j + 1; (exact om124 (by k_asm))⟩, ?hf9, mk.first hxj hin⟩
        case hs9 =>
          rw [ht1]
          exact (kS.set x (.bool true)).congr fun y => by simp only [List.mem_append, List.mem_singleton]; exact ⟨fun q => q.elim (fun q => q.elim (fun q => .inl (.inl q)) .inr) fun q => .inl (.inr q), fun q => q.elim (fun q => q.elim (fun q => .inl (.inl q)) .inr) fun q => .inl (.inr q)⟩
        case hl9 =>
          have := stored_len c2.ses x (.bool true)
          show (stored _ _ _).length ≤ j + 1
          (exact om113 lenS this)
        case hf9 =>
          show OSAre _ ((c2.fo ++ [x]).map some)
          rw [List.map_append]
          exact OSAre.snoc fok ⟨tx, rfl⟩
    case done2 =>
      intro c2 u2 h5 tk5 hP5 F7 N7
      (first | (refine hideW ?_; intro gG9; obtain ⟨-, -, -, fok, mk⟩ := hP5; refine (?_ : wpAny _ _ _ _ _ _); clear gG9) | obtain ⟨-, -, -, fok, mk⟩ := hP5)
      rw [hvl] at mk
      k_steps
      exact Out.intro (by assumption) (by assumption) [(Fo, listOf c2.vs.toArray c2.n), (Nm, listOf nvs.toArray nn)] (by kqd_sub) ⟨Fo, c2.vs, c2.n, c2.fr, c2.fo, rfl, rfl, fok, mk⟩

end

section
-- part Plumb
set_option maxRecDepth 100000 in
set_option maxHeartbeats 1000000 in
theorem strtoi_any (w : World) (ot : Option Str) (tv : Value) (b : Int) (tb : Nat) (htv : OSV ot tv) (hx : ∀ x, ot = some x → x.length ≤ 40 ∧ ∀ c ∈ x.cps.toList, c < 128) (hb : 0 ≤ b ∧ b ≤ 36) :
  CallsOk w 607 [tv, .int b tb] 6 300 [] (fun _ => True) (fun v post => OptInt (ot.bind fun x => strtoiF x b) v ∧ post = []) := by
  cases ot with
  | some x =>
    obtain ⟨t, rfl⟩ := htv
    simp only [Option.bind_some]
    exact strtoi_ok w x t b tb (hx x rfl).1 (hx x rfl).2 hb
  | none =>
    obtain rfl : tv = .none := htv
    unfold CallsOk
    have tg9 : Mine.Tg 94577 := tgI 94577
    k_fill
    intro p loose mean mg mb dp un gd cn cs a ccd cl outer A₀ base h₀ L m rest s Q E B F X N hoff T hk hd hu hy hret
    refine wpAny_call ?_
    k_dflt (refine' code_defW ?y0k1 ?y0k2 ?y0k3 ?y0k4 ?y0kO ?y0k5 ?y0kA ?y0kF ?y0kK ?y0k6 ?y0k7 ?y0k8 ?y0k9 ?y0kB ?y0kR ?_ ?y0c2 ?y0c3 ?y0c4 ?y0c5; (case y0kA => exact rfl); (case y0kF => exact rfl); (case y0kK => assumption); (case y0k1 => k_asm); (case y0k2 => k_asm); (case y0k3 => k_asm); (case y0k4 => k_asm); (case y0kO => assumption); (case y0k5 => k_asm); (case y0k6 => k_is); (case y0k7 => k_is); (case y0k8 => ktr_room); (case y0k9 => first | exact BindsTo.of_eq rfl | exact binds_K (by k_in) rfl (by k_is) rfl rfl rfl); (case y0c5 => decide); (case y0kB => exact locs rfl); (case y0kR => assumption); (case y0c2 => exact rfl); (case y0c3 => exact rfl); (case y0c4 => exact rfl); k_whole; intro g1 L1 h1 FG1 F1 N1 B1 X1 T1 G1; (try k_lift B1); (first | ((refine name_env2 ?_); intro tkE aA eE qk xE) | ((try dsimp only); (try k_fold); (try ((refine name_env ?_); intro aA eE xE)))))
    k_steps
    exact Out.intro (by assumption) (by assumption) [] (by kqd_sub) ⟨rfl, rfl⟩
set_option maxRecDepth 100000 in
set_option maxHeartbeats 1000000 in
theorem read_any (w : World) (ot : Option Str) (tv : Value) (b : Int) (tb : Nat) (htv : OSV ot tv) (hx : ∀ x, ot = some x → x.length ≤ 40 ∧ ∀ c ∈ x.cps.toList, c < 128) (hb : 0 ≤ b ∧ b ≤ 36) :
  CallsOk w 702 [tv, .int b tb] 6 300 [] (fun _ => True) (fun v post => OptInt (ot.bind fun x => strtoiF x b) v ∧ post = []) := by
  cases ot with
  | some x =>
    obtain ⟨t, rfl⟩ := htv
    simp only [Option.bind_some]
    exact law_read_ok w x t b tb (hx x rfl).1 (hx x rfl).2 hb
  | none =>
    obtain rfl : tv = .none := htv
    unfold CallsOk
    have tg9 : Mine.Tg 3467 := tgI 3467
    k_fill
    intro p loose mean mg mb dp un gd cn cs a ccd cl outer A₀ base h₀ L m rest s Q E B F X N hoff T hk hd hu hy hret
    refine wpAny_call ?_
    k_dflt (refine' code_defW ?y1k1 ?y1k2 ?y1k3 ?y1k4 ?y1kO ?y1k5 ?y1kA ?y1kF ?y1kK ?y1k6 ?y1k7 ?y1k8 ?y1k9 ?y1kB ?y1kR ?_ ?y1c2 ?y1c3 ?y1c4 ?y1c5; (case y1kA => exact rfl); (case y1kF => exact rfl); (case y1kK => assumption); (case y1k1 => k_asm); (case y1k2 => k_asm); (case y1k3 => k_asm); (case y1k4 => k_asm); (case y1kO => assumption); (case y1k5 => k_asm); (case y1k6 => k_is); (case y1k7 => k_is); (case y1k8 => ktr_room); (case y1k9 => first | exact BindsTo.of_eq rfl | exact binds_K (by k_in) rfl (by k_is) rfl rfl rfl); (case y1c5 => decide); (case y1kB => exact locs rfl); (case y1kR => assumption); (case y1c2 => exact rfl); (case y1c3 => exact rfl); (case y1c4 => exact rfl); k_whole; intro g1 L1 h1 FG1 F1 N1 B1 X1 T1 G1; (try k_lift B1); (first | ((refine name_env2 ?_); intro tkE aA eE qk xE) | ((try dsimp only); (try k_fold); (try ((refine name_env ?_); intro aA eE xE)))))
    k_steps
    exact Out.intro (by assumption) (by assumption) [] (by kqd_sub) ⟨rfl, rfl⟩
set_option maxRecDepth 100000 in
set_option maxHeartbeats 1000000 in
theorem needed_ok (w : World) (v : Addr) (nm : Str) (t : Nat) : CallsOk w 586 [.ref v, .str nm t] 3 200 [] (fun _ => True) (fun r post => r = .ref v ∧ post = []) := by
  unfold CallsOk
  have tg9 : Mine.Tg 9469 := tgI 9469
  k_fill
  intro p loose mean mg mb dp un gd cn cs a ccd cl outer A₀ base h₀ L m rest s Q E B F X N hoff T hk hd hu hy hret
  refine wpAny_call ?_
  k_dflt (refine' code_defW ?y2k1 ?y2k2 ?y2k3 ?y2k4 ?y2kO ?y2k5 ?y2kA ?y2kF ?y2kK ?y2k6 ?y2k7 ?y2k8 ?y2k9 ?y2kB ?y2kR ?_ ?y2c2 ?y2c3 ?y2c4 ?y2c5; (case y2kA => exact rfl); (case y2kF => exact rfl); (case y2kK => assumption); (case y2k1 => k_asm); (case y2k2 => k_asm); (case y2k3 => k_asm); (case y2k4 => k_asm); (case y2kO => assumption); (case y2k5 => k_asm); (case y2k6 => k_is); (case y2k7 => k_is); (case y2k8 => ktr_room); (case y2k9 => first | exact BindsTo.of_eq rfl | exact binds_K (by k_in) rfl (by k_is) rfl rfl rfl); (case y2c5 => decide); (case y2kB => exact locs rfl); (case y2kR => assumption); (case y2c2 => exact rfl); (case y2c3 => exact rfl); (case y2c4 => exact rfl); k_whole; intro g1 L1 h1 FG1 F1 N1 B1 X1 T1 G1; (try k_lift B1); (first | ((refine name_env2 ?_); intro tkE aA eE qk xE) | ((try dsimp only); (try k_fold); (try ((refine name_env ?_); intro aA eE xE)))))
  k_steps
  exact Out.intro (by assumption) (by assumption) [] (by kqd_sub) ⟨rfl, rfl⟩

end

section
-- part Whole
/-- a Vector, laid -/
noncomputable abbrev vecL (w : World) (Vx dX It : Addr) (t1 t2 t3 t4 t5 kk n : Nat) (kind : Str) (vs : List Value) : List (Addr × Obj) :=
  [(Vx, instObj 237 dX), (dX, dictOf (vecEs w t1 t2 t3 t4 t5 kind kk (.ref It)) 5), (It, listOf vs.toArray n)]
set_option maxRecDepth 100000 in
set_option maxHeartbeats 2000000 in
theorem wholeInt_ok (w : World) (Vx dX It : Addr) (t1 t2 t3 t4 t5 kk n : Nat) (b : Int) (tb ta tc : Nat) (hb : 0 ≤ b) :
  CallsOk w 593 [.ref Vx, .str (Str.ofString "base") ta, .int 10 tc] 20 1200 (vecL w Vx dX It t1 t2 t3 t4 t5 kk n (Str.ofString "integer") [.int b tb]) (fun _ => True)
    (fun v post => (∃ t, v = .int b t) ∧ post = vecL w Vx dX It t1 t2 t3 t4 t5 kk n (Str.ofString "integer") [.int b tb]) := by
  unfold CallsOk
  have tg9 : Mine.Tg 82826 := tgI 82826
  k_fill
  intro p loose mean mg mb dp un gd cn cs a ccd cl outer A₀ base h₀ L m rest s Q E B F X N hoff T hk hd hu hy hret
  refine wpAny_call ?_
  k_dflt (refine' code_defW ?y0k1 ?y0k2 ?y0k3 ?y0k4 ?y0kO ?y0k5 ?y0kA ?y0kF ?y0kK ?y0k6 ?y0k7 ?y0k8 ?y0k9 ?y0kB ?y0kR ?_ ?y0c2 ?y0c3 ?y0c4 ?y0c5; (case y0kA => exact rfl); (case y0kF => exact rfl); (case y0kK => assumption); (case y0k1 => k_asm); (case y0k2 => k_asm); (case y0k3 => k_asm); (case y0k4 => k_asm); (case y0kO => assumption); (case y0k5 => k_asm); (case y0k6 => k_is); (case y0k7 => k_is); (case y0k8 => ktr_room); (case y0k9 => first | exact BindsTo.of_eq rfl | exact binds_K (by k_in) rfl (by k_is) rfl rfl rfl); (case y0c5 => decide); (case y0kB => exact locs rfl); (case y0kR => assumption); (case y0c2 => exact rfl); (case y0c3 => exact rfl); (case y0c4 => exact rfl); k_whole; intro g1 L1 h1 FG1 F1 N1 B1 X1 T1 G1; (try k_lift B1); (first | ((refine name_env2 ?_); intro tkE aA eE qk xE) | ((try dsimp only); (try k_fold); (try ((refine name_env ?_); intro aA eE xE)))))
  k_steps
  have e : (if b < 0 then -b else b).fdiv 1 = b := by rw [if_neg (by (exact om207 (by k_asm)))]; exact Int.fdiv_one b
  rw [e]
  exact Out.intro (by assumption) (by assumption) (vecL w Vx dX It t1 t2 t3 t4 t5 kk n (Str.ofString "integer") [.int b tb]) (by kqd_sub) ⟨⟨_, rfl⟩, rfl⟩

end

section
-- part WholeD
set_option maxRecDepth 100000 in
set_option maxHeartbeats 2000000 in
theorem wholeDbl_ok (w : World) (Vx dX It Tp : Addr) (t1 t2 t3 t4 t5 kk n : Nat) (b : Int) (tb tb1 ta tc : Nat) (hb : 0 ≤ b) :
  CallsOk w 593 [.ref Vx, .str (Str.ofString "base") ta, .int 10 tc] 20 1200 ([(Vx, instObj 237 dX), (dX, dictOf (vecEs w t1 t2 t3 t4 t5 (Str.ofString "double") kk (.ref It)) 5), (It, listOf #[.ref Tp] n), (Tp, tup [.int b tb, .int 1 tb1])]) (fun _ => True)
    (fun v post => (∃ t, v = .int b t) ∧ post = []) := by
  unfold CallsOk
  have tg9 : Mine.Tg 24172 := tgI 24172
  k_fill
  intro p loose mean mg mb dp un gd cn cs a ccd cl outer A₀ base h₀ L m rest s Q E B F X N hoff T hk hd hu hy hret
  refine wpAny_call ?_
  k_dflt (refine' code_defW ?y0k1 ?y0k2 ?y0k3 ?y0k4 ?y0kO ?y0k5 ?y0kA ?y0kF ?y0kK ?y0k6 ?y0k7 ?y0k8 ?y0k9 ?y0kB ?y0kR ?_ ?y0c2 ?y0c3 ?y0c4 ?y0c5; (case y0kA => exact rfl); (case y0kF => exact rfl); (case y0kK => assumption); (case y0k1 => k_asm); (case y0k2 => k_asm); (case y0k3 => k_asm); (case y0k4 => k_asm); (case y0kO => assumption); (case y0k5 => k_asm); (case y0k6 => k_is); (case y0k7 => k_is); (case y0k8 => ktr_room); (case y0k9 => first | exact BindsTo.of_eq rfl | exact binds_K (by k_in) rfl (by k_is) rfl rfl rfl); (case y0c5 => decide); (case y0kB => exact locs rfl); (case y0kR => assumption); (case y0c2 => exact rfl); (case y0c3 => exact rfl); (case y0c4 => exact rfl); k_whole; intro g1 L1 h1 FG1 F1 N1 B1 X1 T1 G1; (try k_lift B1); (first | ((refine name_env2 ?_); intro tkE aA eE qk xE) | ((try dsimp only); (try k_fold); (try ((refine name_env ?_); intro aA eE xE)))))
  k_steps
  have e : (if b < 0 then -b else b).fdiv 1 = b := by rw [if_neg (by (exact om207 (by k_asm)))]; exact Int.fdiv_one b
  rw [e]
  exact Out.intro (by assumption) (by assumption) [] (by kqd_sub) ⟨⟨_, rfl⟩, rfl⟩

end

section
-- part OneText
set_option maxRecDepth 100000 in
set_option maxHeartbeats 2000000 in
theorem one_ok (w : World) (Vx dX It : Addr) (t1 t2 t3 t4 t5 kk n : Nat) (x nm df : Str) (tx ta tc : Nat) :
  CallsOk w 645 [.ref Vx, .str nm ta, .str df tc] 20 1200 (vecL w Vx dX It t1 t2 t3 t4 t5 kk n (Str.ofString "character") [.str x tx]) (fun _ => True)
    (fun v post => v = .str x tx ∧ post = vecL w Vx dX It t1 t2 t3 t4 t5 kk n (Str.ofString "character") [.str x tx]) := by
  unfold CallsOk
  have tg9 : Mine.Tg 96518 := tgI 96518
  k_fill
  intro p loose mean mg mb dp un gd cn cs a ccd cl outer A₀ base h₀ L m rest s Q E B F X N hoff T hk hd hu hy hret
  refine wpAny_call ?_
  k_dflt (refine' code_defW ?y0k1 ?y0k2 ?y0k3 ?y0k4 ?y0kO ?y0k5 ?y0kA ?y0kF ?y0kK ?y0k6 ?y0k7 ?y0k8 ?y0k9 ?y0kB ?y0kR ?_ ?y0c2 ?y0c3 ?y0c4 ?y0c5; (case y0kA => exact rfl); (case y0kF => exact rfl); (case y0kK => assumption); (case y0k1 => k_asm); (case y0k2 => k_asm); (case y0k3 => k_asm); (case y0k4 => k_asm); (case y0kO => assumption); (case y0k5 => k_asm); (case y0k6 => k_is); (case y0k7 => k_is); (case y0k8 => ktr_room); (case y0k9 => first | exact BindsTo.of_eq rfl | exact binds_K (by k_in) rfl (by k_is) rfl rfl rfl); (case y0c5 => decide); (case y0kB => exact locs rfl); (case y0kR => assumption); (case y0c2 => exact rfl); (case y0c3 => exact rfl); (case y0c4 => exact rfl); k_whole; intro g1 L1 h1 FG1 F1 N1 B1 X1 T1 G1; (try k_lift B1); (first | ((refine name_env2 ?_); intro tkE aA eE qk xE) | ((try dsimp only); (try k_fold); (try ((refine name_env ?_); intro aA eE xE)))))
  dsimp only [vecL] at N1
  k_steps
  exact Out.intro (by assumption) (by assumption) (vecL w Vx dX It t1 t2 t3 t4 t5 kk n (Str.ofString "character") [.str x tx]) (by kqd_sub) ⟨rfl, rfl⟩

end

section
-- part TextsOf
set_option maxRecDepth 100000 in
set_option maxHeartbeats 2000000 in
theorem texts_ok (w : World) (Vx dX It : Addr) (t1 t2 t3 t4 t5 kk n : Nat) (vs : List Value) (hl : vs.length ≤ 100) :
  CallsOk w 638 [.none, .ref Vx] 20 1200 (vecL w Vx dX It t1 t2 t3 t4 t5 kk n (Str.ofString "character") vs) (fun _ => True)
    (fun v post => ∃ D n', v = .ref D ∧ post = (D, listOf vs.toArray n') :: vecL w Vx dX It t1 t2 t3 t4 t5 kk n (Str.ofString "character") vs) := by
  unfold CallsOk
  have tg9 : Mine.Tg 57760 := tgI 57760
  k_fill
  intro p loose mean mg mb dp un gd cn cs a ccd cl outer A₀ base h₀ L m rest s Q E B F X N hoff T hk hd hu hy hret
  refine wpAny_call ?_
  k_dflt (refine' code_defWC ?y0k1 ?y0k2 ?y0k3 ?y0k4 ?y0kO ?y0k5 ?y0kA ?y0kF ?y0kK ?y0k6 ?y0k7 ?y0k8 ?y0k9 ?y0kB ?y0kD ?y0kR ?_ ?y0c2 ?y0c3 ?y0c4; (case y0kA => exact rfl); (case y0kF => exact rfl); (case y0kK => assumption); (case y0k1 => k_asm); (case y0k2 => k_asm); (case y0k3 => k_asm); (case y0k4 => k_asm); (case y0kO => assumption); (case y0k5 => k_asm); (case y0k6 => k_is); (case y0k7 => k_is); (case y0k8 => ktr_room); (case y0k9 => first | exact BindsTo.of_eq rfl | exact binds_K (by k_in) rfl (by k_is) rfl rfl rfl); (case y0kB => exact rfl); (case y0kD => decide +kernel); (case y0kR => assumption); (case y0c2 => exact rfl); (case y0c3 => exact rfl); (case y0c4 => exact rfl); k_whole; intro g1 L1 h1 tk1 cells1 FG1 F1 N1 Y1 B1 X1 T1 l1 G1; (try k_lt l1); k_cells Y1; (try dsimp only [List.cons_append, List.nil_append] at N1); (try k_lift B1); (first | ((refine name_env2 ?_); intro tkE aA eE qk xE) | ((try dsimp only); (try k_fold); (try ((refine name_env ?_); intro aA eE xE)))))
  dsimp only [vecL] at N1
  k_with "call type:list cons nil" => guard_hyp tg9 : Mine.Tg 57760; (k_dflt (refine' kup_listOf (zs := vs) (its2 := vs.toArray) ?F ?N ?b (List.toList_toArray) ?_ ?z; (case F => k_asm); (case N => k_asm); (case b => k_mem); (case z => rw [sizeLine_eq, List.toList_toArray]; (exact Nat.le_trans (by with_reducible assumption) (Nat.le_of_ble_eq_true rfl)))); intro D5 c5 h5 F5 N5 l5; (try k_lt l5))
  k_steps
  exact Out.intro (by assumption) (by assumption) ((D5, listOf vs.toArray c5) :: vecL w Vx dX It t1 t2 t3 t4 t5 kk n (Str.ofString "character") vs) (by kqd_sub) ⟨D5, c5, rfl, rfl⟩

end

section
-- part Exact
set_option maxRecDepth 100000 in
set_option maxHeartbeats 2000000 in
theorem exact_ok (w : World) (M dM Fm Tg Us Pl : Addr) (t1 t2 t3 t4 nf nt : Nat) (fvs tvs : List Value) (fs : List Str) (tags : List (Option Str)) (c₀ : MS) (st₀ fin : MSt)
    (hf : OSAre fvs (fs.map some)) (ht : OSAre tvs tags) (hc : MOk w st₀ c₀) (hul : st₀.1.length = tags.length) (hlo : (Pl == sysModules) = false) (hne : MNe M dM Fm Tg Us Pl)
    (hfl : fs.length ≤ 100) (htl : tags.length ≤ 100) (hfin : fin.2.length ≤ 100) (hdots : Str.ofString "..." ∉ fs) (hrun : exAll tags fs st₀ = some fin) :
  CallsOk w 393 [.ref M] 6 400 (mLed w M dM Fm Tg Us Pl t1 t2 t3 t4 nf nt fvs tvs c₀) (fun _ => True)
    (fun v post => v = .none ∧ ∃ c, post = mLed w M dM Fm Tg Us Pl t1 t2 t3 t4 nf nt fvs tvs c ∧ MOk w fin c) := by
  unfold CallsOk
  have tg9 : Mine.Tg 65094 := tgI 65094
  k_fill
  intro p loose mean mg mb dp un gd cn cs a ccd cl outer A₀ base h₀ L m rest s Q E B F X N hoff T hk hd hu hy hret
  refine wpAny_call ?_
  k_dflt (refine' code_defW ?y0k1 ?y0k2 ?y0k3 ?y0k4 ?y0kO ?y0k5 ?y0kA ?y0kF ?y0kK ?y0k6 ?y0k7 ?y0k8 ?y0k9 ?y0kB ?y0kR ?_ ?y0c2 ?y0c3 ?y0c4 ?y0c5; (case y0kA => exact rfl); (case y0kF => exact rfl); (case y0kK => assumption); (case y0k1 => k_asm); (case y0k2 => k_asm); (case y0k3 => k_asm); (case y0k4 => k_asm); (case y0kO => assumption); (case y0k5 => k_asm); (case y0k6 => k_is); (case y0k7 => k_is); (case y0k8 => ktr_room); (case y0k9 => first | exact BindsTo.of_eq rfl | exact binds_K (by k_in) rfl (by k_is) rfl rfl rfl); (case y0c5 => decide); (case y0kB => exact locs rfl); (case y0kR => assumption); (case y0c2 => exact rfl); (case y0c3 => exact rfl); (case y0c4 => exact rfl); k_whole; intro g1 L1 h1 FG1 F1 N1 B1 X1 T1 G1; (try k_lift B1); (first | ((refine name_env2 ?_); intro tkE aA eE qk xE) | ((try dsimp only); (try k_fold); (try ((refine name_env ?_); intro aA eE xE)))))
  k_with "pyIter ref" => guard_hyp tg9 : Mine.Tg 65094; refine Halt.out ?_
  k_steps
  rename Fr _ _ _ _ => F5
  unfold Halt
  have hmap : ∀ c : MS, (mLed w M dM Fm Tg Us Pl t1 t2 t3 t4 nf nt fvs tvs c).map (·.1) = [M, dM, Fm, Tg, Us, Pl] := fun _ => rfl
  (first | (refine hideW ?_; intro gG9; obtain ⟨n1, n2, n3, n4, n5, n6, n7, n8, n9⟩ := hne; refine (?_ : wpAny _ _ _ _ _ _); clear gG9) | obtain ⟨n1, n2, n3, n4, n5, n6, n7, n8, n9⟩ := hne)
  refine' for_listL (l := Fm) (vs := fvs) (nn := nf) (fun c : MS => mLed w M dM Fm Tg Us Pl t1 t2 t3 t4 nf nt fvs tvs c) (fun _ => []) [Str.ofString "place"] (fun j c => ∃ st, exAll tags (fs.take j) st₀ = some st ∧ MOk w st c) c₀ (by rfl) (fun _ => .tail _ (.tail _ (.head _))) F5 N1 (List.forall_mem_nil _) ⟨st₀, rfl, hc⟩ ?turn1 ?done1
  case turn1 =>
    intro c j v u h4 tk4 own hj hv hoff4 ha4 hP F4 N4
    (first | (refine hideW ?_; intro gG9; obtain ⟨x, hx, hxv⟩ := hf.2 j v hv; refine (?_ : wpAny _ _ _ _ _ _); clear gG9) | obtain ⟨x, hx, hxv⟩ := hf.2 j v hv)
    obtain ⟨name, hname, rfl⟩ : ∃ name, fs[j]? = some name ∧ x = some name := by
      rw [List.getElem?_map] at hx
      cases q : fs[j]? with
      | none => rw [q] at hx; cases hx
      | some z => rw [q] at hx; cases hx; exact ⟨z, rfl, rfl⟩
    obtain ⟨tn, rfl⟩ := hxv
    have hdn : (name != Str.ofString "...") = true := bne_iff_ne.mpr fun e => hdots (e ▸ List.mem_of_getElem? hname)
    (first | (refine hideW ?_; intro gG9; obtain ⟨st, hst, hok⟩ := hP; refine (?_ : wpAny _ _ _ _ _ _); clear gG9) | obtain ⟨st, hst, hok⟩ := hP)
    (first | (refine hideW ?_; intro gG9; obtain ⟨st', st2, hs1, hs2, hs3⟩ := manyM_prefix hrun hname; refine (?_ : wpAny _ _ _ _ _ _); clear gG9) | obtain ⟨st', st2, hs1, hs2, hs3⟩ := manyM_prefix hrun hname)
    rw [show manyM (exRow tags) (fs.take j) st₀ = some st from hst] at hs1
    cases hs1
    rw [hmap] at hoff4
    dsimp only [List.cons_append, List.nil_append] at N4
    k_with "call builtin:len" => guard_hyp tg9 : Mine.Tg 65094; (refine len_at (l := Tg) (by k_asm) (by k_mem) tags.length ht.1 (by (exact om152 (by k_asm))) ?_)
    k_steps
    rename_i hr8 F8 N8 _
    unfold Halt
    have hlt : st.1.length = tags.length := by
      have up := manyM_up exRow_up hst
      rw [up.1, hul]
    refine' for_range (n := tags.length) (fun c : MS => mLed w M dM Fm Tg Us Pl t1 t2 t3 t4 nf nt fvs tvs c ++ own) (fun _ => []) [] (fun i c => ∃ a, rowM (exIn tags name) i st = some a ∧ MOk w a c) c (by rfl) hr8 (small_one (by (exact om2)) (by (exact om3)) (by (exact om4)) (by (exact om162 (by k_asm)))) (rangeSize_nat _ _) F8 N8 (List.forall_mem_nil _) ⟨st, rfl, hok⟩ ?turn2 ?done2
    case turn2 =>
      intro c8 i t8 u8 h8 tk8 own8 hi8 hoff8 ha8 hP8 F9 N9
      (first | (refine hideW ?_; intro gG9; obtain ⟨a8, ha9, hok8⟩ := hP8; refine (?_ : wpAny _ _ _ _ _ _); clear gG9) | obtain ⟨a8, ha9, hok8⟩ := hP8)
      (first | (refine hideW ?_; intro gG9; obtain ⟨a9, b9, hr1, hr2, hr3⟩ := rowM_prefix hs2 hi8; refine (?_ : wpAny _ _ _ _ _ _); clear gG9) | obtain ⟨a9, b9, hr1, hr2, hr3⟩ := rowM_prefix hs2 hi8)
      rw [ha9] at hr1
      cases hr1
      have hal : a8.1.length = tags.length := by
        have up := rowM_up exIn_up ha9
        rw [up.1, hlt]
      have hbl : a8.2.length ≤ 100 := by
        have u1 := rowM_rest exIn_up hs2 (by (exact om163 (by k_asm))) ha9
        have u2 := manyM_up exRow_up (manyM_rest hrun (j + 1) hs3)
        have := u1.2
        have := u2.2
        (exact om165 (by k_asm) (by k_asm) (by k_asm))
      (first | (refine hideW ?_; intro gG9; obtain ⟨hi9, ho9, zq1⟩ := hok8; refine (?_ : wpAny _ _ _ _ _ _); clear gG9; (first | subst zq1 | cases zq1)) | obtain ⟨hi9, ho9, rfl⟩ := hok8)
      (first | (refine hideW ?_; intro gG9; obtain ⟨tv, htv, hos⟩ := ht.at hi8; refine (?_ : wpAny _ _ _ _ _ _); clear gG9) | obtain ⟨tv, htv, hos⟩ := ht.at hi8)
      have h0i : (0 : Int) + (i : Int) = (i : Int) := by (exact Int.zero_add _)
      rw [List.map_append, hmap] at hoff8
      dsimp only [List.cons_append, List.nil_append] at N9
      rw [h0i] at F9
      k_with "subscriptTail Attribute Name Name ref int" => guard_hyp tg9 : Mine.Tg 65094; (first | refine item_at (l := Tg) (i := i) (by k_asm) (by k_mem) htv rfl (by (exact om153 htl hi8)) ?_ | (refine uitem_at (l := Us) (i := i) (by k_asm) (by k_mem) hi9 (by rw [hal]; exact hi8) rfl (by (exact om153 htl hi8)) ?_; intro tu))
      cases hx9 : tags[i] with
      | none =>
        rw [hx9] at hos
        obtain rfl : tv = .none := hos
        k_steps
        have hb := exIn_none hr2 hi8 hx9
        refine' turn_next c8 (by assumption) (by assumption) (sub_l (mLed w M dM Fm Tg Us Pl t1 t2 t3 t4 nf nt fvs tvs c8)) (sub_r (mLed w M dM Fm Tg Us Pl t1 t2 t3 t4 nf nt fvs tvs c8)) rfl (List.forall_mem_nil _) (by (intro z; (first | intro h1 h2 h3 | intro h2 h3); (repeat (first | with_reducible rfl | exact relS h3 | refine relI (by first | with_reducible assumption | exact relN h3 (by with_unfolding_all rfl) | exact relP h2 (by with_unfolding_all rfl)) ?_ | refine relK (by first | with_reducible assumption | exact List.forall_mem_nil _ | exact relM h2 rfl) ?_ | exact rfl)); done)) ⟨_, hr3, hi9, ho9, hb⟩
      | some y =>
        rw [hx9] at hos
        obtain ⟨ty, rfl⟩ := hos
        k_with "compareOp In str ref" => guard_hyp tg9 : Mine.Tg 65094; (have hq := exIn_free hr2 hi8 hx9 (by with_reducible assumption) hal (by with_reducible assumption); refine kda_in (knd := strKind _ _) (by k_asm) (by k_mem) ho9 hlo (strKind_is _ _ _ _) false (by rw [valueAt_pv]; exact decide_eq_false hq.1) ?_)
        k_with "setItem ref str" => guard_hyp tg9 : Mine.Tg 65094; (k_dflt (refine' kda_set (knd := strKind _ _) ?F ?N ?U ho9 (strKind_is _ _ _ _) ?z ?_; (case F => k_asm); (case N => k_asm); (case U => k_updF); (case z => rw [sizeLine_eq]; simp only [List.length_map] at hbl ⊢; (exact Nat.le_trans (by with_reducible assumption) (Nat.le_of_ble_eq_true rfl)))); intro h' o' F' N' hd')
        k_with "setItem ref int int" => guard_hyp tg9 : Mine.Tg 65094; (refine' uset_at (i := i) ?F ?N ?U hi9 (by rw [hal]; exact hi8) rfl (by (exact om153 htl hi8)) ?_; (case F => k_asm); (case N => k_asm); (case U => k_updF); intro h2 o2 F2 N2 hu2)
        k_steps
        · obtain ⟨hq1, rfl⟩ := hq
          rw [stored_pv hq1] at hd'
          refine' turn_next ⟨o2, c8.us.set i 2, o', c8.ps ++ [(name, (i : Int), t8)]⟩ (by assumption) (by assumption) (sub_l (mLed w M dM Fm Tg Us Pl t1 t2 t3 t4 nf nt fvs tvs ⟨o2, c8.us.set i 2, o', c8.ps ++ [(name, (i : Int), t8)]⟩)) (sub_r (mLed w M dM Fm Tg Us Pl t1 t2 t3 t4 nf nt fvs tvs ⟨o2, c8.us.set i 2, o', c8.ps ++ [(name, (i : Int), t8)]⟩)) rfl (List.forall_mem_nil _) (by (intro z; (first | intro h1 h2 h3 | intro h2 h3); (repeat (first | with_reducible rfl | exact relS h3 | refine relI (by first | with_reducible assumption | exact relN h3 (by with_unfolding_all rfl) | exact relP h2 (by with_unfolding_all rfl)) ?_ | refine relK (by first | with_reducible assumption | exact List.forall_mem_nil _ | exact relM h2 rfl) ?_ | exact rfl)); done)) ⟨_, hr3, hu2, hd', by simp⟩
        · rename_i hz
          have hb := exIn_ne0 hr2 hz
          refine' turn_next c8 (by assumption) (by assumption) (sub_l (mLed w M dM Fm Tg Us Pl t1 t2 t3 t4 nf nt fvs tvs c8)) (sub_r (mLed w M dM Fm Tg Us Pl t1 t2 t3 t4 nf nt fvs tvs c8)) rfl (List.forall_mem_nil _) (by (intro z; (first | intro h1 h2 h3 | intro h2 h3); (repeat (first | with_reducible rfl | exact relS h3 | refine relI (by first | with_reducible assumption | exact relN h3 (by with_unfolding_all rfl) | exact relP h2 (by with_unfolding_all rfl)) ?_ | refine relK (by first | with_reducible assumption | exact List.forall_mem_nil _ | exact relM h2 rfl) ?_ | exact rfl)); done)) ⟨_, hr3, hi9, ho9, hb⟩
        · rename_i hz
          have hb := exIn_other hr2 hi8 hx9 (by simpa using hz)
          refine' turn_next c8 (by assumption) (by assumption) (sub_l (mLed w M dM Fm Tg Us Pl t1 t2 t3 t4 nf nt fvs tvs c8)) (sub_r (mLed w M dM Fm Tg Us Pl t1 t2 t3 t4 nf nt fvs tvs c8)) rfl (List.forall_mem_nil _) (by (intro z; (first | intro h1 h2 h3 | intro h2 h3); (repeat (first | with_reducible rfl | exact relS h3 | refine relI (by first | with_reducible assumption | exact relN h3 (by with_unfolding_all rfl) | exact relP h2 (by with_unfolding_all rfl)) ?_ | refine relK (by first | with_reducible assumption | exact List.forall_mem_nil _ | exact relM h2 rfl) ?_ | exact rfl)); done)) ⟨_, hr3, hi9, ho9, hb⟩
    case done2 =>
      intro c8 u8 h8 tk8 hP8 F9 N9
      k_steps
      refine' turn_next c8 (by assumption) (by assumption) (by kqd_sub) (fun p hp => .tail _ (.tail _ (.tail _ (.tail _ (.tail _ (.tail _ hp)))))) rfl (List.forall_mem_nil _) (by (intro z; (first | intro h1 h2 h3 | intro h2 h3); (repeat (first | with_reducible rfl | exact relS h3 | refine relI (by first | with_reducible assumption | exact relN h3 (by with_unfolding_all rfl) | exact relP h2 (by with_unfolding_all rfl)) ?_ | refine relK (by first | with_reducible assumption | exact List.forall_mem_nil _ | exact relM h2 rfl) ?_ | exact rfl)); done)) ⟨_, hs3, ?_⟩
      (first | (refine hideW ?_; intro gG9; obtain ⟨a8, ha9, hok8⟩ := hP8; refine (?_ : wpAny _ _ _ _ _ _); clear gG9) | obtain ⟨a8, ha9, hok8⟩ := hP8)
      rw [show rowM (exIn tags name) tags.length st = some st2 from hs2] at ha9
      cases ha9
      exact hok8
  case done1 =>
    intro c u h4 tk4 hP F4 N4
    (first | (refine hideW ?_; intro gG9; obtain ⟨st, hst, hok⟩ := hP; refine (?_ : wpAny _ _ _ _ _ _); clear gG9) | obtain ⟨st, hst, hok⟩ := hP)
    k_steps
    rw [List.take_of_length_le (by rw [hf.1, List.length_map]; exact Nat.le_refl _), hrun] at hst
    cases hst
    exact Out.intro (by assumption) (by assumption) (mLed w M dM Fm Tg Us Pl t1 t2 t3 t4 nf nt fvs tvs c) (by kqd_sub) ⟨rfl, c, rfl, hok⟩

end

section
-- part PartialOf
noncomputable abbrev paC (name y : Str) (n : Int) : Prop := n ≠ 2 ∧ (y != Str.ofString "") = true ∧ Txt.startswith name y = true
noncomputable def paIn (tags : List (Option Str)) (name : Str) (i : Nat) (st : MSt) : Option MSt :=
  match tags[i]? with
  | some (some y) => if paC name y (st.1.getD i 0) then (if st.1.getD i 0 = 1 ∨ name ∈ st.2.map (·.1) then none else some (st.1.set i 1, st.2 ++ [(name, (i : Int))])) else some st
  | _ => some st
theorem paIn_none {tags : List (Option Str)} {name : Str} {i : Nat} {st b : MSt} (e : paIn tags name i st = some b) (hi : i < tags.length) (h : tags[i] = none) : b = st := by
  unfold paIn at e
  rw [List.getElem?_eq_getElem hi, h] at e
  exact (Option.some.inj e).symm
theorem paIn_free {tags : List (Option Str)} {name y : Str} {i : Nat} {us : List Int} {l : List (Str × Int)} {b : MSt} (e : paIn tags name i (us, l) = some b) (hi : i < tags.length) (h : tags[i] = some y) (hc : paC name y (us.getD i 0)) :
    us.getD i 0 ≠ 1 ∧ name ∉ l.map (·.1) ∧ b = (us.set i 1, l ++ [(name, (i : Int))]) := by
  unfold paIn at e
  rw [List.getElem?_eq_getElem hi, h] at e
  dsimp only at e
  rw [if_pos hc] at e
  split at e
  · cases e
  · rename_i q
    exact ⟨fun z => q (.inl z), fun z => q (.inr z), (Option.some.inj e).symm⟩
theorem paIn_skip {tags : List (Option Str)} {name y : Str} {i : Nat} {us : List Int} {l : List (Str × Int)} {b : MSt} (e : paIn tags name i (us, l) = some b) (hi : i < tags.length) (h : tags[i] = some y) (hc : ¬ paC name y (us.getD i 0)) : b = (us, l) := by
  unfold paIn at e
  rw [List.getElem?_eq_getElem hi, h] at e
  dsimp only at e
  rw [if_neg hc] at e
  exact (Option.some.inj e).symm
noncomputable def paRow (tags : List (Option Str)) (name : Str) (st : MSt) : Option MSt := rowM (paIn tags name) tags.length st
theorem paIn_up {tags : List (Option Str)} {name : Str} (i : Nat) (a b : MSt) (e : paIn tags name i a = some b) : MUp a b := by
  unfold paIn at e
  split at e
  · split at e
    · split at e
      · cases e
      · cases e; exact ⟨by simp, by simp⟩
    · cases e; exact .refl _
  · cases e; exact .refl _
theorem paRow_up {tags : List (Option Str)} (name : Str) (a b : MSt) (e : paRow tags name a = some b) : MUp a b := rowM_up paIn_up e
set_option maxRecDepth 100000 in
set_option maxHeartbeats 2000000 in
theorem partialOf_ok (w : World) (M dM Fm Tg Us Pl : Addr) (t1 t2 t3 t4 nf nt : Nat) (fvs tvs : List Value) (tags : List (Option Str)) (name : Str) (tn : Nat) (c : MS) (st st2 : MSt)
    (ht : OSAre tvs tags) (hok : MOk w st c) (hlt : st.1.length = tags.length) (hlo : (Pl == sysModules) = false) (hne : MNe M dM Fm Tg Us Pl)
    (htl : tags.length ≤ 100) (hfin : st2.2.length ≤ 100) (hs2 : paRow tags name st = some st2) :
  CallsOk w 407 [.ref M, .str name tn] 6 400 (mLed w M dM Fm Tg Us Pl t1 t2 t3 t4 nf nt fvs tvs c) (fun _ => True)
    (fun v post => v = .none ∧ ∃ c, post = mLed w M dM Fm Tg Us Pl t1 t2 t3 t4 nf nt fvs tvs c ∧ MOk w st2 c) := by
  unfold CallsOk
  have tg9 : Mine.Tg 71509 := tgI 71509
  k_fill
  intro p loose mean mg mb dp un gd cn cs a ccd cl outer A₀ base h₀ L m rest s Q E B F X N hoff T hk hd hu hy hret
  refine wpAny_call ?_
  k_dflt (refine' code_defW ?y0k1 ?y0k2 ?y0k3 ?y0k4 ?y0kO ?y0k5 ?y0kA ?y0kF ?y0kK ?y0k6 ?y0k7 ?y0k8 ?y0k9 ?y0kB ?y0kR ?_ ?y0c2 ?y0c3 ?y0c4 ?y0c5; (case y0kA => exact rfl); (case y0kF => exact rfl); (case y0kK => assumption); (case y0k1 => k_asm); (case y0k2 => k_asm); (case y0k3 => k_asm); (case y0k4 => k_asm); (case y0kO => assumption); (case y0k5 => k_asm); (case y0k6 => k_is); (case y0k7 => k_is); (case y0k8 => ktr_room); (case y0k9 => first | exact BindsTo.of_eq rfl | exact binds_K (by k_in) rfl (by k_is) rfl rfl rfl); (case y0c5 => decide); (case y0kB => exact locs rfl); (case y0kR => assumption); (case y0c2 => exact rfl); (case y0c3 => exact rfl); (case y0c4 => exact rfl); k_whole; intro g1 L1 h1 FG1 F1 N1 B1 X1 T1 G1; (try k_lift B1); (first | ((refine name_env2 ?_); intro tkE aA eE qk xE) | ((try dsimp only); (try k_fold); (try ((refine name_env ?_); intro aA eE xE)))))
  have hmap : ∀ c : MS, (mLed w M dM Fm Tg Us Pl t1 t2 t3 t4 nf nt fvs tvs c).map (·.1) = [M, dM, Fm, Tg, Us, Pl] := fun _ => rfl
  (first | (refine hideW ?_; intro gG9; obtain ⟨n1, n2, n3, n4, n5, n6, n7, n8, n9⟩ := hne; refine (?_ : wpAny _ _ _ _ _ _); clear gG9) | obtain ⟨n1, n2, n3, n4, n5, n6, n7, n8, n9⟩ := hne)
  k_with "pyIter ref" => guard_hyp tg9 : Mine.Tg 71509; refine Halt.out ?_
  k_with "call builtin:len" => guard_hyp tg9 : Mine.Tg 71509; (refine len_at (l := Tg) (by k_asm) (by k_mem) tags.length ht.1 (by (exact om152 (by k_asm))) ?_)
  k_steps
  rename_i hr8 F8 N8 _
  unfold Halt
  refine' for_range (n := tags.length) (fun c : MS => mLed w M dM Fm Tg Us Pl t1 t2 t3 t4 nf nt fvs tvs c) (fun _ => []) [Str.ofString "tag"] (fun i c => ∃ a, rowM (paIn tags name) i st = some a ∧ MOk w a c) c (by rfl) hr8 (small_one (by (exact om2)) (by (exact om3)) (by (exact om4)) (by (exact om162 (by k_asm)))) (rangeSize_nat _ _) F8 N8 (List.forall_mem_nil _) ⟨st, rfl, hok⟩ ?turn2 ?done2
  case turn2 =>
    intro c8 i t8 u8 h8 tk8 own8 hi8 hoff8 ha8 hP8 F9 N9
    (first | (refine hideW ?_; intro gG9; obtain ⟨a8, ha9, hok8⟩ := hP8; refine (?_ : wpAny _ _ _ _ _ _); clear gG9) | obtain ⟨a8, ha9, hok8⟩ := hP8)
    (first | (refine hideW ?_; intro gG9; obtain ⟨a9, b9, hr1, hr2, hr3⟩ := rowM_prefix hs2 hi8; refine (?_ : wpAny _ _ _ _ _ _); clear gG9) | obtain ⟨a9, b9, hr1, hr2, hr3⟩ := rowM_prefix hs2 hi8)
    rw [ha9] at hr1
    cases hr1
    have hal : a8.1.length = tags.length := by
      have up := rowM_up paIn_up ha9
      rw [up.1, hlt]
    have hbl : a8.2.length ≤ 100 := by
      have u1 := rowM_rest paIn_up hs2 (by (exact om163 (by k_asm))) ha9
      have := u1.2
      (exact om164 (by k_asm) (by k_asm))
    (first | (refine hideW ?_; intro gG9; obtain ⟨hi9, ho9, zq1⟩ := hok8; refine (?_ : wpAny _ _ _ _ _ _); clear gG9; (first | subst zq1 | cases zq1)) | obtain ⟨hi9, ho9, rfl⟩ := hok8)
    (first | (refine hideW ?_; intro gG9; obtain ⟨tv, htv, hos⟩ := ht.at hi8; refine (?_ : wpAny _ _ _ _ _ _); clear gG9) | obtain ⟨tv, htv, hos⟩ := ht.at hi8)
    have h0i : (0 : Int) + (i : Int) = (i : Int) := by (exact Int.zero_add _)
    rw [hmap] at hoff8
    dsimp only [List.cons_append, List.nil_append] at N9
    rw [h0i] at F9
    k_with "subscriptTail Attribute Name Name ref int" => guard_hyp tg9 : Mine.Tg 71509; (first | refine item_at (l := Tg) (i := i) (by k_asm) (by k_mem) htv rfl (by (exact om153 htl hi8)) ?_ | (refine uitem_at (l := Us) (i := i) (by k_asm) (by k_mem) hi9 (by rw [hal]; exact hi8) rfl (by (exact om153 htl hi8)) ?_; intro tu))
    cases hx9 : tags[i] with
    | none =>
      rw [hx9] at hos
      obtain rfl : tv = .none := hos
      k_steps
      all_goals (have hb := paIn_none hr2 hi8 hx9; refine' turn_next c8 (by assumption) (by assumption) (fun p hp => List.mem_append_left own8 (as := mLed w M dM Fm Tg Us Pl t1 t2 t3 t4 nf nt fvs tvs c8) hp) (fun p hp => List.mem_append_right (mLed w M dM Fm Tg Us Pl t1 t2 t3 t4 nf nt fvs tvs c8) hp) rfl (List.forall_mem_nil _) (by (intro z; (first | intro h1 h2 h3 | intro h2 h3); (repeat (first | with_reducible rfl | exact relS h3 | refine relI (by first | with_reducible assumption | exact relN h3 (by with_unfolding_all rfl) | exact relP h2 (by with_unfolding_all rfl)) ?_ | refine relK (by first | with_reducible assumption | exact List.forall_mem_nil _ | exact relM h2 rfl) ?_ | exact rfl)); done)) ⟨_, hr3, hi9, ho9, hb⟩)
    | some y =>
      rw [hx9] at hos
      obtain ⟨ty, rfl⟩ := hos
      k_with "exec Raise some none" => guard_hyp tg9 : Mine.Tg 71509; refine Halt.out ?_
      k_with "compareOp In str ref" => guard_hyp tg9 : Mine.Tg 71509; (have hq := paIn_free hr2 hi8 hx9 ⟨by with_reducible assumption, by with_reducible assumption, by with_reducible assumption⟩; refine kda_in (knd := strKind _ _) (by k_asm) (by k_mem) ho9 hlo (strKind_is _ _ _ _) false (by rw [valueAt_pv]; exact decide_eq_false hq.2.1) ?_)
      k_with "setItem ref str" => guard_hyp tg9 : Mine.Tg 71509; (k_dflt (refine' kda_set (knd := strKind _ _) ?F ?N ?U ho9 (strKind_is _ _ _ _) ?z ?_; (case F => k_asm); (case N => k_asm); (case U => k_updF); (case z => rw [sizeLine_eq]; simp only [List.length_map] at hbl ⊢; (exact Nat.le_trans (by with_reducible assumption) (Nat.le_of_ble_eq_true rfl)))); intro h' o' F' N' hd')
      k_with "setItem ref int int" => guard_hyp tg9 : Mine.Tg 71509; (refine' uset_at (i := i) ?F ?N ?U hi9 (by rw [hal]; exact hi8) rfl (by (exact om153 htl hi8)) ?_; (case F => k_asm); (case N => k_asm); (case U => k_updF); intro h2 o2 F2 N2 hu2)
      k_steps
      · exact ((paIn_free hr2 hi8 hx9 ⟨by with_reducible assumption, by with_reducible assumption, by with_reducible assumption⟩).1 (by with_reducible assumption)).elim
      · obtain ⟨hq0, hq1, rfl⟩ := hq
        rw [stored_pv hq1] at hd'
        refine' turn_next ⟨o2, c8.us.set i 1, o', c8.ps ++ [(name, (i : Int), t8)]⟩ (by assumption) (by assumption) (fun p hp => List.mem_append_left own8 (as := mLed w M dM Fm Tg Us Pl t1 t2 t3 t4 nf nt fvs tvs ⟨o2, c8.us.set i 1, o', c8.ps ++ [(name, (i : Int), t8)]⟩) hp) (fun p hp => List.mem_append_right (mLed w M dM Fm Tg Us Pl t1 t2 t3 t4 nf nt fvs tvs ⟨o2, c8.us.set i 1, o', c8.ps ++ [(name, (i : Int), t8)]⟩) hp) rfl (List.forall_mem_nil _) (by (intro z; (first | intro h1 h2 h3 | intro h2 h3); (repeat (first | with_reducible rfl | exact relS h3 | refine relI (by first | with_reducible assumption | exact relN h3 (by with_unfolding_all rfl) | exact relP h2 (by with_unfolding_all rfl)) ?_ | refine relK (by first | with_reducible assumption | exact List.forall_mem_nil _ | exact relM h2 rfl) ?_ | exact rfl)); done)) ⟨_, hr3, hu2, hd', by simp⟩
      all_goals (
        have hb := paIn_skip hr2 hi8 hx9 (by rintro ⟨q1, q2, q3⟩; first | exact q1 (by with_reducible assumption) | exact absurd q2 (by with_reducible assumption) | exact absurd q3 (by with_reducible assumption) | simp_all)
        refine' turn_next c8 (by assumption) (by assumption) (fun p hp => List.mem_append_left own8 (as := mLed w M dM Fm Tg Us Pl t1 t2 t3 t4 nf nt fvs tvs c8) hp) (fun p hp => List.mem_append_right (mLed w M dM Fm Tg Us Pl t1 t2 t3 t4 nf nt fvs tvs c8) hp) rfl (List.forall_mem_nil _) (by (intro z; (first | intro h1 h2 h3 | intro h2 h3); (repeat (first | with_reducible rfl | exact relS h3 | refine relI (by first | with_reducible assumption | exact relN h3 (by with_unfolding_all rfl) | exact relP h2 (by with_unfolding_all rfl)) ?_ | refine relK (by first | with_reducible assumption | exact List.forall_mem_nil _ | exact relM h2 rfl) ?_ | exact rfl)); done)) ⟨_, hr3, hi9, ho9, hb⟩)
  case done2 =>
    intro c8 u8 h8 tk8 hP8 F9 N9
    k_steps
    (first | (refine hideW ?_; intro gG9; obtain ⟨a8, ha9, hok8⟩ := hP8; refine (?_ : wpAny _ _ _ _ _ _); clear gG9) | obtain ⟨a8, ha9, hok8⟩ := hP8)
    rw [show rowM (paIn tags name) tags.length st = some st2 from hs2] at ha9
    cases ha9
    exact Out.intro (by assumption) (by assumption) (mLed w M dM Fm Tg Us Pl t1 t2 t3 t4 nf nt fvs tvs c8) (by kqd_sub) ⟨rfl, c8, rfl, hok8⟩

end

section
-- part Partial
noncomputable def ptIn (tags : List (Option Str)) (name : Str) (st : MSt) : Option MSt := if name ∈ st.2.map (·.1) then some st else paRow tags name st
noncomputable def ptAll (tags : List (Option Str)) (fs : List Str) (st : MSt) : Option MSt := manyM (ptIn tags) fs st
theorem ptIn_up {tags : List (Option Str)} (name : Str) (a b : MSt) (e : ptIn tags name a = some b) : MUp a b := by
  unfold ptIn at e
  split at e
  · cases e; exact .refl _
  · exact paRow_up _ _ _ e
set_option maxRecDepth 100000 in
set_option maxHeartbeats 2000000 in
theorem partial_ok (w : World) (M dM Fm Tg Us Pl : Addr) (t1 t2 t3 t4 nf nt : Nat) (fvs tvs : List Value) (fs : List Str) (tags : List (Option Str)) (c₀ : MS) (st₀ fin : MSt)
    (hf : OSAre fvs (fs.map some)) (ht : OSAre tvs tags) (hc : MOk w st₀ c₀) (hul : st₀.1.length = tags.length) (hlo : (Pl == sysModules) = false) (hne : MNe M dM Fm Tg Us Pl)
    (hfl : fs.length ≤ 100) (htl : tags.length ≤ 100) (hfin : fin.2.length ≤ 100) (hdots : Str.ofString "..." ∉ fs) (hrun : ptAll tags fs st₀ = some fin) :
  CallsOk w 400 [.ref M] 10 800 (mLed w M dM Fm Tg Us Pl t1 t2 t3 t4 nf nt fvs tvs c₀) (fun _ => True)
    (fun v post => v = .none ∧ ∃ c, post = mLed w M dM Fm Tg Us Pl t1 t2 t3 t4 nf nt fvs tvs c ∧ MOk w fin c) := by
  unfold CallsOk
  have tg9 : Mine.Tg 81152 := tgI 81152
  k_fill
  intro p loose mean mg mb dp un gd cn cs a ccd cl outer A₀ base h₀ L m rest s Q E B F X N hoff T hk hd hu hy hret
  refine wpAny_call ?_
  k_dflt (refine' code_defW ?y0k1 ?y0k2 ?y0k3 ?y0k4 ?y0kO ?y0k5 ?y0kA ?y0kF ?y0kK ?y0k6 ?y0k7 ?y0k8 ?y0k9 ?y0kB ?y0kR ?_ ?y0c2 ?y0c3 ?y0c4 ?y0c5; (case y0kA => exact rfl); (case y0kF => exact rfl); (case y0kK => assumption); (case y0k1 => k_asm); (case y0k2 => k_asm); (case y0k3 => k_asm); (case y0k4 => k_asm); (case y0kO => assumption); (case y0k5 => k_asm); (case y0k6 => k_is); (case y0k7 => k_is); (case y0k8 => ktr_room); (case y0k9 => first | exact BindsTo.of_eq rfl | exact binds_K (by k_in) rfl (by k_is) rfl rfl rfl); (case y0c5 => decide); (case y0kB => exact locs rfl); (case y0kR => assumption); (case y0c2 => exact rfl); (case y0c3 => exact rfl); (case y0c4 => exact rfl); k_whole; intro g1 L1 h1 FG1 F1 N1 B1 X1 T1 G1; (try k_lift B1); (first | ((refine name_env2 ?_); intro tkE aA eE qk xE) | ((try dsimp only); (try k_fold); (try ((refine name_env ?_); intro aA eE xE)))))
  k_with "pyIter ref" => guard_hyp tg9 : Mine.Tg 81152; refine Halt.out ?_
  k_steps
  rename Fr _ _ _ _ => F5
  unfold Halt
  have hmap : ∀ c : MS, (mLed w M dM Fm Tg Us Pl t1 t2 t3 t4 nf nt fvs tvs c).map (·.1) = [M, dM, Fm, Tg, Us, Pl] := fun _ => rfl
  refine' for_listL (l := Fm) (vs := fvs) (nn := nf) (fun c : MS => mLed w M dM Fm Tg Us Pl t1 t2 t3 t4 nf nt fvs tvs c) (fun _ => []) [] (fun j c => ∃ st, ptAll tags (fs.take j) st₀ = some st ∧ MOk w st c) c₀ (by rfl) (fun _ => .tail _ (.tail _ (.head _))) F5 N1 (List.forall_mem_nil _) ⟨st₀, rfl, hc⟩ ?turn1 ?done1
  case turn1 =>
    intro c j v u h4 tk4 own hj hv hoff4 ha4 hP F4 N4
    (first | (refine hideW ?_; intro gG9; obtain ⟨x, hx, hxv⟩ := hf.2 j v hv; refine (?_ : wpAny _ _ _ _ _ _); clear gG9) | obtain ⟨x, hx, hxv⟩ := hf.2 j v hv)
    obtain ⟨name, hname, rfl⟩ : ∃ name, fs[j]? = some name ∧ x = some name := by
      rw [List.getElem?_map] at hx
      cases q : fs[j]? with
      | none => rw [q] at hx; cases hx
      | some z => rw [q] at hx; cases hx; exact ⟨z, rfl, rfl⟩
    obtain ⟨tn, rfl⟩ := hxv
    have hdn : (name == Str.ofString "...") = false := beq_eq_false_iff_ne.mpr fun e => hdots (e ▸ List.mem_of_getElem? hname)
    (first | (refine hideW ?_; intro gG9; obtain ⟨st, hst, hok⟩ := hP; refine (?_ : wpAny _ _ _ _ _ _); clear gG9) | obtain ⟨st, hst, hok⟩ := hP)
    (first | (refine hideW ?_; intro gG9; obtain ⟨st', st2, hs1, hs2, hs3⟩ := manyM_prefix hrun hname; refine (?_ : wpAny _ _ _ _ _ _); clear gG9) | obtain ⟨st', st2, hs1, hs2, hs3⟩ := manyM_prefix hrun hname)
    rw [show manyM (ptIn tags) (fs.take j) st₀ = some st from hst] at hs1
    cases hs1
    have hlt : st.1.length = tags.length := by
      have up := manyM_up ptIn_up hst
      rw [up.1, hul]
    have hbl : st2.2.length ≤ 100 := by
      have u2 := manyM_up ptIn_up (manyM_rest hrun (j + 1) hs3)
      have := u2.2
      (exact om164 (by k_asm) (by k_asm))
    rw [hmap] at hoff4
    dsimp only [List.cons_append, List.nil_append] at N4
    have hok' := hok
    (first | (refine hideW ?_; intro gG9; obtain ⟨hi9, ho9, zq1⟩ := hok; refine (?_ : wpAny _ _ _ _ _ _); clear gG9; (first | subst zq1 | cases zq1)) | obtain ⟨hi9, ho9, rfl⟩ := hok)
    by_cases hin : name ∈ (pd c.ps).map (·.1)
    · k_with "compareOp NotIn str ref" => guard_hyp tg9 : Mine.Tg 81152; (refine kdg_notin (knd := strKind _ _) (by k_asm) (by k_mem) ho9 hlo (strKind_is _ _ _ _) true (by rw [valueAt_pv]; exact decide_eq_true hin) ?_)
      k_steps
      have hb : st2 = (c.us, pd c.ps) := by
        unfold ptIn at hs2
        rw [if_pos hin] at hs2
        exact (Option.some.inj hs2).symm
      refine' turn_next c (by assumption) (by assumption) (fun p hp => List.mem_append_left own (as := mLed w M dM Fm Tg Us Pl t1 t2 t3 t4 nf nt fvs tvs c) hp) (fun p hp => List.mem_append_right (mLed w M dM Fm Tg Us Pl t1 t2 t3 t4 nf nt fvs tvs c) hp) rfl (List.forall_mem_nil _) (by (intro z; (first | intro h1 h2 h3 | intro h2 h3); (repeat (first | with_reducible rfl | exact relS h3 | refine relI (by first | with_reducible assumption | exact relN h3 (by with_unfolding_all rfl) | exact relP h2 (by with_unfolding_all rfl)) ?_ | refine relK (by first | with_reducible assumption | exact List.forall_mem_nil _ | exact relM h2 rfl) ?_ | exact rfl)); done)) ⟨_, hs3, hi9, ho9, hb⟩
    · k_with "compareOp NotIn str ref" => guard_hyp tg9 : Mine.Tg 81152; (refine kdg_notin (knd := strKind _ _) (by k_asm) (by k_mem) ho9 hlo (strKind_is _ _ _ _) false (by rw [valueAt_pv]; exact decide_eq_false hin) ?_)
      have hs2' : paRow tags name (c.us, pd c.ps) = some st2 := by
        unfold ptIn at hs2
        rwa [if_neg hin] at hs2
      have hO4 := off_own hoff4 (hmap c)
      k_with "call ref" => guard_hyp tg9 : Mine.Tg 81152; ((with_reducible show wpAny _ _ (call (Value.ref 407) [Value.ref M, Value.str _ _]) _ _ _); (((k_dflt (refine (useL (rest := own) (partialOf_ok w M dM Fm Tg Us Pl t1 t2 t3 t4 nf nt fvs tvs tags name tn c (c.us, pd c.ps) st2 ht hok' hlt hlo hne htl hbl hs2')) (by k_asm) (by k_asm) (by k_asm) (by k_asm) (by k_asm) (by first | exact rfl | assumption) (by ktr_room) (by ktr_units) (by first | exact True.intro | assumption) (by first | exact fun _ h => h | kqd_sub) (by assumption) ?_)); intro v9 p9 h9 tk9 F9 N9 O9 P9)); obtain ⟨rfl, c9, rfl, hok9⟩ := P9; dsimp only [List.cons_append, List.nil_append] at N9)
      k_steps
      refine' turn_next c9 (by assumption) (by assumption) (fun p hp => List.mem_append_left own (as := mLed w M dM Fm Tg Us Pl t1 t2 t3 t4 nf nt fvs tvs c9) hp) (fun p hp => List.mem_append_right (mLed w M dM Fm Tg Us Pl t1 t2 t3 t4 nf nt fvs tvs c9) hp) rfl (List.forall_mem_nil _) (by (intro z; (first | intro h1 h2 h3 | intro h2 h3); (repeat (first | with_reducible rfl | exact relS h3 | refine relI (by first | with_reducible assumption | exact relN h3 (by with_unfolding_all rfl) | exact relP h2 (by with_unfolding_all rfl)) ?_ | refine relK (by first | with_reducible assumption | exact List.forall_mem_nil _ | exact relM h2 rfl) ?_ | exact rfl)); done)) ⟨_, hs3, hok9⟩
  case done1 =>
    intro c u h4 tk4 hP F4 N4
    (first | (refine hideW ?_; intro gG9; obtain ⟨st, hst, hok⟩ := hP; refine (?_ : wpAny _ _ _ _ _ _); clear gG9) | obtain ⟨st, hst, hok⟩ := hP)
    k_steps
    rw [List.take_of_length_le (by rw [hf.1, List.length_map]; exact Nat.le_refl _)] at hst
    obtain rfl := Option.some.inj (hrun.symm.trans hst)
    exact Out.intro (by assumption) (by assumption) (mLed w M dM Fm Tg Us Pl t1 t2 t3 t4 nf nt fvs tvs c) (by kqd_sub) ⟨rfl, c, rfl, hok⟩

end

section
-- part IsFree
noncomputable def freeAt (tags : List (Option Str)) (us : List Int) (p : Nat) : Bool := (us.getD p 0 == 0) && (match tags[p]? with | some (some y) => y == Str.ofString "" | some none => true | none => false)
set_option maxRecDepth 100000 in
set_option maxHeartbeats 2000000 in
theorem isFree_ok (w : World) (M dM Fm Tg Us Pl : Addr) (t1 t2 t3 t4 nf nt : Nat) (fvs tvs : List Value) (tags : List (Option Str)) (c : MS) (st : MSt) (i t : Nat)
    (ht : OSAre tvs tags) (hok : MOk w st c) (hlt : st.1.length = tags.length) (htl : tags.length ≤ 100) (hi8 : i < tags.length) :
  CallsOk w 421 [.ref M, .int i t] 6 400 (mLed w M dM Fm Tg Us Pl t1 t2 t3 t4 nf nt fvs tvs c) (fun _ => True)
    (fun v post => v = .bool (freeAt tags st.1 i) ∧ post = mLed w M dM Fm Tg Us Pl t1 t2 t3 t4 nf nt fvs tvs c) := by
  unfold CallsOk
  have tg9 : Mine.Tg 49611 := tgI 49611
  k_fill
  intro p loose mean mg mb dp un gd cn cs a ccd cl outer A₀ base h₀ L m rest s Q E B F X N hoff T hk hd hu hy hret
  refine wpAny_call ?_
  k_dflt (refine' code_defW ?y0k1 ?y0k2 ?y0k3 ?y0k4 ?y0kO ?y0k5 ?y0kA ?y0kF ?y0kK ?y0k6 ?y0k7 ?y0k8 ?y0k9 ?y0kB ?y0kR ?_ ?y0c2 ?y0c3 ?y0c4 ?y0c5; (case y0kA => exact rfl); (case y0kF => exact rfl); (case y0kK => assumption); (case y0k1 => k_asm); (case y0k2 => k_asm); (case y0k3 => k_asm); (case y0k4 => k_asm); (case y0kO => assumption); (case y0k5 => k_asm); (case y0k6 => k_is); (case y0k7 => k_is); (case y0k8 => ktr_room); (case y0k9 => first | exact BindsTo.of_eq rfl | exact binds_K (by k_in) rfl (by k_is) rfl rfl rfl); (case y0c5 => decide); (case y0kB => exact locs rfl); (case y0kR => assumption); (case y0c2 => exact rfl); (case y0c3 => exact rfl); (case y0c4 => exact rfl); k_whole; intro g1 L1 h1 FG1 F1 N1 B1 X1 T1 G1; (try k_lift B1); (first | ((refine name_env2 ?_); intro tkE aA eE qk xE) | ((try dsimp only); (try k_fold); (try ((refine name_env ?_); intro aA eE xE)))))
  (first | (refine hideW ?_; intro gG9; obtain ⟨hi9, ho9, zq1⟩ := hok; refine (?_ : wpAny _ _ _ _ _ _); clear gG9; (first | subst zq1 | cases zq1)) | obtain ⟨hi9, ho9, rfl⟩ := hok)
  have hul : c.us.length = tags.length := hlt
  (first | (refine hideW ?_; intro gG9; obtain ⟨tv, htv, hos⟩ := ht.at hi8; refine (?_ : wpAny _ _ _ _ _ _); clear gG9) | obtain ⟨tv, htv, hos⟩ := ht.at hi8)
  k_with "subscriptTail Attribute Name Name ref int" => guard_hyp tg9 : Mine.Tg 49611; (first | refine item_at (l := Tg) (i := i) (by k_asm) (by k_mem) htv rfl (by (exact om153 (by k_asm) (by k_asm))) ?_ | (refine uitem_at (l := Us) (i := i) (by k_asm) (by k_mem) hi9 (by rw [hul]; exact hi8) rfl (by (exact om153 (by k_asm) (by k_asm))) ?_; intro tu))
  cases hx9 : tags[i] with
  | none =>
    rw [hx9] at hos
    obtain rfl : tv = .none := hos
    k_steps
    all_goals exact Out.intro (by assumption) (by assumption) (mLed w M dM Fm Tg Us Pl t1 t2 t3 t4 nf nt fvs tvs c) (fun _ h => h) ⟨by unfold freeAt; rw [List.getElem?_eq_getElem hi8, hx9]; simp_all, rfl⟩
  | some y =>
    rw [hx9] at hos
    obtain ⟨ty, rfl⟩ := hos
    k_steps
    all_goals exact Out.intro (by assumption) (by assumption) (mLed w M dM Fm Tg Us Pl t1 t2 t3 t4 nf nt fvs tvs c) (fun _ h => h) ⟨by unfold freeAt; rw [List.getElem?_eq_getElem hi8, hx9]; simp_all, rfl⟩

end

section
-- part Posit
/-- the first free place from p on, or the end -/
noncomputable def seekF (tags : List (Option Str)) (us : List Int) : Nat → Nat → Nat
  | 0, p => p
  | n + 1, p => if p < tags.length ∧ freeAt tags us p = false then seekF tags us n (p + 1) else p
noncomputable def seekP (tags : List (Option Str)) (us : List Int) (p : Nat) : Nat := seekF tags us (tags.length - p) p
theorem seekF_more {tags : List (Option Str)} {us : List Int} : ∀ {n p : Nat}, tags.length - p ≤ n → seekF tags us n p = seekP tags us p
  | 0, p, h => by unfold seekP; rw [Nat.le_zero.mp h]
  | n + 1, p, h => by
    unfold seekP
    rw [seekF]
    by_cases q : p < tags.length ∧ freeAt tags us p = false
    · rw [if_pos q]
      obtain ⟨m, hm⟩ : ∃ m, tags.length - p = m + 1 := ⟨tags.length - p - 1, by have := q.1; (exact om146 (by k_asm))⟩
      rw [hm, seekF, if_pos q, seekF_more (n := n) (by (exact om147 (by k_asm))), seekF_more (n := m) (by (exact om148 (by k_asm)))]
    · rw [if_neg q]
      cases e : tags.length - p with
      | zero => rfl
      | succ m => rw [seekF, if_neg q]
theorem seekP_step {tags : List (Option Str)} {us : List Int} {p : Nat} (h : p < tags.length) (f : freeAt tags us p = false) : seekP tags us p = seekP tags us (p + 1) := by
  obtain ⟨m, hm⟩ : ∃ m, tags.length - p = m + 1 := ⟨tags.length - p - 1, by (exact om149 (by k_asm))⟩
  rw [seekP, hm, seekF, if_pos ⟨h, f⟩, seekF_more (by (exact om148 (by k_asm)))]
theorem seekP_stop {tags : List (Option Str)} {us : List Int} {p : Nat} (h : ¬ (p < tags.length ∧ freeAt tags us p = false)) : seekP tags us p = p := by
  rw [seekP]
  cases e : tags.length - p with
  | zero => rfl
  | succ m => rw [seekF, if_neg h]
noncomputable abbrev PSt := MSt × Nat
noncomputable def poIn (tags : List (Option Str)) (name : Str) (st : PSt) : PSt :=
  if name ∈ st.1.2.map (·.1) then st else
    let q := seekP tags st.1.1 st.2
    if q < tags.length then ((st.1.1.set q 2, st.1.2 ++ [(name, (q : Int))]), q) else (st.1, q)
noncomputable def poAll (tags : List (Option Str)) (fs : List Str) (st : PSt) : PSt := fs.foldl (fun s n => poIn tags n s) st
theorem poAll_take {tags : List (Option Str)} {fs : List Str} {st : PSt} {j : Nat} {name : Str} (h : fs[j]? = some name) : poAll tags (fs.take (j + 1)) st = poIn tags name (poAll tags (fs.take j) st) := by
  unfold poAll
  rw [List.take_add_one, h, Option.toList_some, List.foldl_append]
  rfl
theorem poIn_len {tags : List (Option Str)} {name : Str} {st : PSt} : (poIn tags name st).1.1.length = st.1.1.length ∧ (poIn tags name st).1.2.length ≤ st.1.2.length + 1 ∧ st.1.2.length ≤ (poIn tags name st).1.2.length := by
  unfold poIn
  split
  · exact ⟨rfl, by (exact Nat.le_add_right _ _), Nat.le_refl _⟩
  · dsimp only
    split <;> simp
theorem poAll_len {tags : List (Option Str)} : ∀ {fs : List Str} {st : PSt}, (poAll tags fs st).1.1.length = st.1.1.length ∧ (poAll tags fs st).1.2.length ≤ st.1.2.length + fs.length
  | [], st => ⟨rfl, Nat.le_refl _⟩
  | n :: fs, st => by
    have h := poAll_len (tags := tags) (fs := fs) (st := poIn tags n st)
    have k := poIn_len (tags := tags) (name := n) (st := st)
    refine ⟨h.1.trans k.1, ?_⟩
    have h2 : (poAll tags (n :: fs) st).1.2.length ≤ (poIn tags n st).1.2.length + fs.length := h.2
    rw [List.length_cons]
    (exact om150 (by k_asm) (by k_asm))
theorem freeAt_lt {tags : List (Option Str)} {us : List Int} {p : Nat} (h : ¬ (p < tags.length ∧ freeAt tags us p = false)) (hp : p < tags.length) : freeAt tags us p = true := by
  cases q : freeAt tags us p with
  | true => rfl
  | false => exact absurd ⟨hp, q⟩ h
set_option maxRecDepth 100000 in
set_option maxHeartbeats 2000000 in
theorem positional_ok (w : World) (M dM Fm Tg Us Pl : Addr) (t1 t2 t3 t4 nf nt : Nat) (fvs tvs : List Value) (fs : List Str) (tags : List (Option Str)) (c₀ : MS) (st₀ : MSt)
    (hf : OSAre fvs (fs.map some)) (ht : OSAre tvs tags) (hc : MOk w st₀ c₀) (hul : st₀.1.length = tags.length) (hlo : (Pl == sysModules) = false) (hne : MNe M dM Fm Tg Us Pl)
    (hfl : fs.length ≤ 100) (htl : tags.length ≤ 100) (hfin : st₀.2.length ≤ 100) (hdots : Str.ofString "..." ∉ fs) :
  CallsOk w 414 [.ref M] 10 800 (mLed w M dM Fm Tg Us Pl t1 t2 t3 t4 nf nt fvs tvs c₀) (fun _ => True)
    (fun v post => v = .none ∧ ∃ c, post = mLed w M dM Fm Tg Us Pl t1 t2 t3 t4 nf nt fvs tvs c ∧ MOk w (poAll tags fs (st₀, 0)).1 c) := by
  unfold CallsOk
  have tg9 : Mine.Tg 62634 := tgI 62634
  k_fill
  intro p loose mean mg mb dp un gd cn cs a ccd cl outer A₀ base h₀ L m rest s Q E B F X N hoff T hk hd hu hy hret
  refine wpAny_call ?_
  k_dflt (refine' code_defW ?y0k1 ?y0k2 ?y0k3 ?y0k4 ?y0kO ?y0k5 ?y0kA ?y0kF ?y0kK ?y0k6 ?y0k7 ?y0k8 ?y0k9 ?y0kB ?y0kR ?_ ?y0c2 ?y0c3 ?y0c4 ?y0c5; (case y0kA => exact rfl); (case y0kF => exact rfl); (case y0kK => assumption); (case y0k1 => k_asm); (case y0k2 => k_asm); (case y0k3 => k_asm); (case y0k4 => k_asm); (case y0kO => assumption); (case y0k5 => k_asm); (case y0k6 => k_is); (case y0k7 => k_is); (case y0k8 => ktr_room); (case y0k9 => first | exact BindsTo.of_eq rfl | exact binds_K (by k_in) rfl (by k_is) rfl rfl rfl); (case y0c5 => decide); (case y0kB => exact locs rfl); (case y0kR => assumption); (case y0c2 => exact rfl); (case y0c3 => exact rfl); (case y0c4 => exact rfl); k_whole; intro g1 L1 h1 FG1 F1 N1 B1 X1 T1 G1; (try k_lift B1); (first | ((refine name_env2 ?_); intro tkE aA eE qk xE) | ((try dsimp only); (try k_fold); (try ((refine name_env ?_); intro aA eE xE)))))
  k_with "pyIter ref" => guard_hyp tg9 : Mine.Tg 62634; refine Halt.out ?_
  k_steps
  rename Fr _ _ _ _ => F5
  rename News _ _ _ _ => N5
  unfold Halt
  have hmap : ∀ c : MS, (mLed w M dM Fm Tg Us Pl t1 t2 t3 t4 nf nt fvs tvs c).map (·.1) = [M, dM, Fm, Tg, Us, Pl] := fun _ => rfl
  have hne' := hne
  (first | (refine hideW ?_; intro gG9; obtain ⟨n1, n2, n3, n4, n5, n6, n7, n8, n9⟩ := hne; refine (?_ : wpAny _ _ _ _ _ _); clear gG9) | obtain ⟨n1, n2, n3, n4, n5, n6, n7, n8, n9⟩ := hne)
  refine' for_listL (l := Fm) (vs := fvs) (nn := nf) (fun c : MS × Nat × Nat => mLed w M dM Fm Tg Us Pl t1 t2 t3 t4 nf nt fvs tvs c.1) (fun c => [(Str.ofString "place", .int (c.2.1 : Int) c.2.2)]) [] (fun j c => ∃ st, poAll tags (fs.take j) (st₀, 0) = (st, c.2.1) ∧ c.2.1 ≤ tags.length ∧ MOk w st c.1) (c₀, 0, (_ : Nat)) (by rfl) (fun _ => .tail _ (.tail _ (.head _))) F5 N5 ?hk1 ⟨st₀, rfl, Nat.zero_le _, hc⟩ ?turn1 ?done1
  case hk1 => tb_start
  case turn1 =>
    intro c j v u h4 tk4 own hj hv hoff4 ha4 hP F4 N4
    (first | (refine hideW ?_; intro gG9; obtain ⟨x, hx, hxv⟩ := hf.2 j v hv; refine (?_ : wpAny _ _ _ _ _ _); clear gG9) | obtain ⟨x, hx, hxv⟩ := hf.2 j v hv)
    obtain ⟨name, hname, rfl⟩ : ∃ name, fs[j]? = some name ∧ x = some name := by
      rw [List.getElem?_map] at hx
      cases q : fs[j]? with
      | none => rw [q] at hx; cases hx
      | some z => rw [q] at hx; cases hx; exact ⟨z, rfl, rfl⟩
    obtain ⟨tn, rfl⟩ := hxv
    have hdn : (name == Str.ofString "...") = false := beq_eq_false_iff_ne.mpr fun e => hdots (e ▸ List.mem_of_getElem? hname)
    (first | (refine hideW ?_; intro gG9; obtain ⟨c, pl, tpl⟩ := c; refine (?_ : wpAny _ _ _ _ _ _); clear gG9) | obtain ⟨c, pl, tpl⟩ := c)
    (first | (refine hideW ?_; intro gG9; obtain ⟨st, hst, hple, hok⟩ := hP; refine (?_ : wpAny _ _ _ _ _ _); clear gG9) | obtain ⟨st, hst, hple, hok⟩ := hP)
    have hs2 := poAll_take (tags := tags) (st := (st₀, 0)) hname
    rw [hst] at hs2
    dsimp only at hst hple hok hs2 N4 F4 ha4
    have hln := poAll_len (tags := tags) (fs := fs.take j) (st := (st₀, 0))
    rw [hst] at hln
    have hlt : st.1.length = tags.length := hln.1.trans hul
    have hbl : st.2.length ≤ 200 := by
      have := hln.2
      dsimp only at this
      rw [List.length_take] at this
      (exact om151 hfl hfin this)
    rw [hmap] at hoff4
    dsimp only [List.cons_append, List.nil_append] at N4
    have hok' := hok
    (first | (refine hideW ?_; intro gG9; obtain ⟨hi9, ho9, zq1⟩ := hok; refine (?_ : wpAny _ _ _ _ _ _); clear gG9; (first | subst zq1 | cases zq1)) | obtain ⟨hi9, ho9, rfl⟩ := hok)
    by_cases hin : name ∈ (pd c.ps).map (·.1)
    · k_with "compareOp NotIn str ref" => guard_hyp tg9 : Mine.Tg 62634; (refine kdg_notin (knd := strKind _ _) (by k_asm) (by k_mem) ho9 hlo (strKind_is _ _ _ _) true (by rw [valueAt_pv]; exact decide_eq_true hin) ?_)
      k_steps
      have hb : poIn tags name ((c.us, pd c.ps), pl) = ((c.us, pd c.ps), pl) := by
        unfold poIn
        rw [if_pos hin]
      rw [hb] at hs2
      refine' turn_next (c, pl, tpl) (by assumption) (by assumption) (fun p hp => List.mem_append_left own (as := mLed w M dM Fm Tg Us Pl t1 t2 t3 t4 nf nt fvs tvs c) hp) (fun p hp => List.mem_append_right (mLed w M dM Fm Tg Us Pl t1 t2 t3 t4 nf nt fvs tvs c) hp) rfl ?hkk (by (intro z; (first | intro h1 h2 h3 | intro h2 h3); (refine Eq.symm ?_); (repeat (first | with_reducible rfl | refine relI (by first | with_reducible assumption | exact relN h3 (by with_unfolding_all rfl) | exact relP h2 (by with_unfolding_all rfl)) ?_ | refine relK (by first | with_reducible assumption | exact List.forall_mem_nil _ | exact relM h2 rfl) ?_ | exact rfl)); (refine Eq.symm ?_); (repeat (first | with_reducible rfl | exact relS h3 | refine relI (by first | with_reducible assumption | exact relN h3 (by with_unfolding_all rfl) | exact relP h2 (by with_unfolding_all rfl)) ?_ | refine relK (by first | with_reducible assumption | exact List.forall_mem_nil _ | exact relM h2 rfl) ?_ | exact rfl)); done)) ⟨_, hs2, hple, hi9, ho9, rfl⟩
      case hkk => tb_start
    · k_with "compareOp NotIn str ref" => guard_hyp tg9 : Mine.Tg 62634; (refine kdg_notin (knd := strKind _ _) (by k_asm) (by k_mem) ho9 hlo (strKind_is _ _ _ _) false (by rw [valueAt_pv]; exact decide_eq_false hin) ?_)
      have hO4 := off_own hoff4 (hmap c)
      k_with "exec While BoolOp cons nil" => guard_hyp tg9 : Mine.Tg 62634; refine Halt.out ?_
      k_steps
      rename Fr _ _ _ _ => F6
      unfold Halt
      refine' ksw_while (fun _ => mLed w M dM Fm Tg Us Pl t1 t2 t3 t4 nf nt fvs tvs c ++ own) (fun c8 : Nat × Nat => [(Str.ofString "place", .int (c8.1 : Int) c8.2)]) (fun _ => True) [] (fun c8 => seekP tags c.us c8.1 = seekP tags c.us pl ∧ c8.1 ≤ tags.length) (fun c8 => tags.length - c8.1) (pl, tpl) (by assumption) N4 trivial ?hk1 ⟨rfl, hple⟩ ?turn2
      case hk1 => tb_start
      case turn2 =>
        intro c8 u8 h8 tk8 _ hP8 F9 N9
        obtain ⟨pl8, tp8⟩ := c8
        obtain ⟨hsk, hpl8⟩ := hP8
        dsimp only at hsk hpl8 F9
        dsimp only [List.cons_append, List.nil_append] at N9
        k_with "call builtin:len" => guard_hyp tg9 : Mine.Tg 62634; (refine len_at (l := Tg) (by k_asm) (by k_mem) tags.length ht.1 (by (exact om152 (by k_asm))) ?_)
        by_cases hl8 : pl8 < tags.length
        · have hlI : (pl8 : Int) < (tags.length : Int) := by (exact om56 (by k_asm))
          cases hfr : freeAt tags c.us pl8 with
          | true =>
            k_with "call ref" => guard_hyp tg9 : Mine.Tg 62634; ((with_reducible show wpAny _ _ (call (Value.ref 421) [Value.ref M, Value.int _ _]) _ _ _); (((k_dflt (refine (useL (rest := own) (isFree_ok w M dM Fm Tg Us Pl t1 t2 t3 t4 nf nt fvs tvs tags c (c.us, pd c.ps) pl8 _ ht hok' hlt htl hl8)) (by k_asm) (by k_asm) (by k_asm) (by k_asm) (by k_asm) (by first | exact rfl | assumption) (by ktr_room) (by ktr_units) (by first | exact True.intro | assumption) (by first | exact fun _ h => h | kqd_sub) (by assumption) ?_)); intro v9 p9 h9 tk9 F9 N9 O9 P9)); obtain ⟨rfl, rfl⟩ := P9; rw [hfr]; dsimp only [List.cons_append, List.nil_append] at N9)
            k_with "setItem ref str" => guard_hyp tg9 : Mine.Tg 62634; (k_dflt (refine' kda_set (knd := strKind _ _) ?F ?N ?U ho9 (strKind_is _ _ _ _) ?z ?_; (case F => k_asm); (case N => k_asm); (case U => k_updF); (case z => rw [sizeLine_eq]; simp only [List.length_map] at hbl ⊢; (exact Nat.le_trans (by with_reducible assumption) (Nat.le_of_ble_eq_true rfl)))); intro h' o' F' N' hd')
            k_with "setItem ref int int" => guard_hyp tg9 : Mine.Tg 62634; (refine' uset_at (i := pl8) ?F ?N ?U hi9 (by rw [show c.us.length = tags.length from hlt]; exact hl8) rfl (by (exact om153 htl hl8)) ?_; (case F => k_asm); (case N => k_asm); (case U => k_updF); intro h2 o2 F2 N2 hu2)
            k_steps
            have hsp : seekP tags c.us pl = pl8 := by rw [← hsk]; exact seekP_stop (by rw [hfr]; rintro ⟨-, q⟩; cases q)
            have hb : poIn tags name ((c.us, pd c.ps), pl) = ((c.us.set pl8 2, pd c.ps ++ [(name, (pl8 : Int))]), pl8) := by
              unfold poIn
              rw [if_neg hin]
              dsimp only
              rw [hsp, if_pos hl8]
            rw [hb] at hs2
            rw [stored_pv hin] at hd'
            refine' turn_next (⟨o2, c.us.set pl8 2, o', c.ps ++ [(name, (pl8 : Int), tp8)]⟩, pl8, tp8) (by assumption) (by assumption) (fun p hp => List.mem_append_left own (as := mLed w M dM Fm Tg Us Pl t1 t2 t3 t4 nf nt fvs tvs ⟨o2, c.us.set pl8 2, o', c.ps ++ [(name, (pl8 : Int), tp8)]⟩) hp) (fun p hp => List.mem_append_right (mLed w M dM Fm Tg Us Pl t1 t2 t3 t4 nf nt fvs tvs ⟨o2, c.us.set pl8 2, o', c.ps ++ [(name, (pl8 : Int), tp8)]⟩) hp) rfl ?hk3 (by (intro z; (first | intro h1 h2 h3 | intro h2 h3); (refine Eq.symm ?_); (repeat (first | with_reducible rfl | refine relI (by first | with_reducible assumption | exact relN h3 (by with_unfolding_all rfl) | exact relP h2 (by with_unfolding_all rfl)) ?_ | refine relK (by first | with_reducible assumption | exact List.forall_mem_nil _ | exact relM h2 rfl) ?_ | exact rfl)); (refine Eq.symm ?_); (repeat (first | with_reducible rfl | exact relS h3 | refine relI (by first | with_reducible assumption | exact relN h3 (by with_unfolding_all rfl) | exact relP h2 (by with_unfolding_all rfl)) ?_ | refine relK (by first | with_reducible assumption | exact List.forall_mem_nil _ | exact relM h2 rfl) ?_ | exact rfl)); done)) ⟨_, hs2, Nat.le_of_lt hl8, hu2, hd', by simp⟩
            case hk3 => tb_start
          | false =>
            k_with "call ref" => guard_hyp tg9 : Mine.Tg 62634; ((with_reducible show wpAny _ _ (call (Value.ref 421) [Value.ref M, Value.int _ _]) _ _ _); (((k_dflt (refine (useL (rest := own) (isFree_ok w M dM Fm Tg Us Pl t1 t2 t3 t4 nf nt fvs tvs tags c (c.us, pd c.ps) pl8 _ ht hok' hlt htl hl8)) (by k_asm) (by k_asm) (by k_asm) (by k_asm) (by k_asm) (by first | exact rfl | assumption) (by ktr_room) (by ktr_units) (by first | exact True.intro | assumption) (by first | exact fun _ h => h | kqd_sub) (by assumption) ?_)); intro v9 p9 h9 tk9 F9 N9 O9 P9)); obtain ⟨rfl, rfl⟩ := P9; rw [hfr]; dsimp only [List.cons_append, List.nil_append] at N9)
            k_steps
            refine haltI ?_
            refine' ksw_end (pl8 + 1, _) (by assumption) (by assumption) (fun _ h => h) trivial ?hk4 (by (intro z; (first | intro h1 h2 h3 | intro h2 h3); (repeat (first | with_reducible rfl | exact relS h3 | refine relI (by first | with_reducible assumption | exact relN h3 (by with_unfolding_all rfl) | exact relP h2 (by with_unfolding_all rfl)) ?_ | refine relK (by first | with_reducible assumption | exact List.forall_mem_nil _ | exact relM h2 rfl) ?_ | exact rfl)); done)) ⟨by rw [← hsk]; exact (seekP_step hl8 hfr).symm, hl8⟩ (by dsimp only; (exact om78 (by k_asm)))
            case hk4 => tb_start
        · have hlI : (tags.length : Int) ≤ (pl8 : Int) := by (exact om154 (by k_asm))
          k_steps
          have hsp : seekP tags c.us pl = pl8 := by rw [← hsk]; exact seekP_stop (fun q => hl8 q.1)
          have hb : poIn tags name ((c.us, pd c.ps), pl) = ((c.us, pd c.ps), pl8) := by
            unfold poIn
            rw [if_neg hin]
            dsimp only
            rw [hsp, if_neg hl8]
          rw [hb] at hs2
          refine' turn_next (c, pl8, tp8) (by assumption) (by assumption) (fun p hp => List.mem_append_left own (as := mLed w M dM Fm Tg Us Pl t1 t2 t3 t4 nf nt fvs tvs c) hp) (fun p hp => List.mem_append_right (mLed w M dM Fm Tg Us Pl t1 t2 t3 t4 nf nt fvs tvs c) hp) rfl ?hk5 (by (intro z; (first | intro h1 h2 h3 | intro h2 h3); (refine Eq.symm ?_); (repeat (first | with_reducible rfl | refine relI (by first | with_reducible assumption | exact relN h3 (by with_unfolding_all rfl) | exact relP h2 (by with_unfolding_all rfl)) ?_ | refine relK (by first | with_reducible assumption | exact List.forall_mem_nil _ | exact relM h2 rfl) ?_ | exact rfl)); (refine Eq.symm ?_); (repeat (first | with_reducible rfl | exact relS h3 | refine relI (by first | with_reducible assumption | exact relN h3 (by with_unfolding_all rfl) | exact relP h2 (by with_unfolding_all rfl)) ?_ | refine relK (by first | with_reducible assumption | exact List.forall_mem_nil _ | exact relM h2 rfl) ?_ | exact rfl)); done)) ⟨_, hs2, hpl8, hi9, ho9, rfl⟩
          case hk5 => tb_start
  case done1 =>
    intro c u h4 tk4 hP F4 N4
    (first | (refine hideW ?_; intro gG9; obtain ⟨c, pl, tpl⟩ := c; refine (?_ : wpAny _ _ _ _ _ _); clear gG9) | obtain ⟨c, pl, tpl⟩ := c)
    (first | (refine hideW ?_; intro gG9; obtain ⟨st, hst, hple, hok⟩ := hP; refine (?_ : wpAny _ _ _ _ _ _); clear gG9) | obtain ⟨st, hst, hple, hok⟩ := hP)
    k_steps
    rw [List.take_of_length_le (by rw [hf.1, List.length_map]; exact Nat.le_refl _)] at hst
    exact Out.intro (by assumption) (by assumption) (mLed w M dM Fm Tg Us Pl t1 t2 t3 t4 nf nt fvs tvs c) (by kqd_sub) ⟨rfl, c, rfl, by rw [hst]; exact hok⟩

end

section
-- part Rest
theorem fold_id (ks : List Int) : ks.foldl (fun (l : List Int) (_ : Int) => l) [] = [] := by
  induction ks with
  | nil => rfl
  | cons k ks ih => exact ih
theorem range_lt {k : Int} {n m : Nat} (h : k < 0 + ((((n : Int) - 0).toNat : Nat) : Int)) (e : m = n) : k < (m : Int) := by (exact om194 (by k_asm) (by k_asm))
set_option maxRecDepth 100000 in
set_option maxHeartbeats 2000000 in
theorem rest_ok (w : World) (M dM Fm Tg Us Pl : Addr) (t1 t2 t3 t4 nf nt : Nat) (fvs tvs : List Value) (c : MS)
    (hi9 : UAre c.uo c.us) (hul : c.us.length = tvs.length) (hn : tvs.length ≤ 100) (hz : ∀ i, i < tvs.length → c.us.getD i 0 ≠ 0) :
  CallsOk w 426 [.ref M] 6 400 (mLed w M dM Fm Tg Us Pl t1 t2 t3 t4 nf nt fvs tvs c) (fun _ => True)
    (fun v post => ∃ R n, v = .ref R ∧ post = (R, listOf #[] n) :: mLed w M dM Fm Tg Us Pl t1 t2 t3 t4 nf nt fvs tvs c) := by
  unfold CallsOk
  have tg9 : Mine.Tg 32714 := tgI 32714
  k_fill
  intro p loose mean mg mb dp un gd cn cs a ccd cl outer A₀ base h₀ L m rest s Q E B F X N hoff T hk hd hu hy hret
  refine wpAny_call ?_
  k_dflt (refine' code_defWC ?y0k1 ?y0k2 ?y0k3 ?y0k4 ?y0kO ?y0k5 ?y0kA ?y0kF ?y0kK ?y0k6 ?y0k7 ?y0k8 ?y0k9 ?y0kB ?y0kD ?y0kR ?_ ?y0c2 ?y0c3 ?y0c4; (case y0kA => exact rfl); (case y0kF => exact rfl); (case y0kK => assumption); (case y0k1 => k_asm); (case y0k2 => k_asm); (case y0k3 => k_asm); (case y0k4 => k_asm); (case y0kO => assumption); (case y0k5 => k_asm); (case y0k6 => k_is); (case y0k7 => k_is); (case y0k8 => ktr_room); (case y0k9 => first | exact BindsTo.of_eq rfl | exact binds_K (by k_in) rfl (by k_is) rfl rfl rfl); (case y0kB => exact rfl); (case y0kD => decide +kernel); (case y0kR => assumption); (case y0c2 => exact rfl); (case y0c3 => exact rfl); (case y0c4 => exact rfl); k_whole; intro g1 L1 h1 tk1 cells1 FG1 F1 N1 Y1 B1 X1 T1 l1 G1; (try k_lt l1); k_cells Y1; (try dsimp only [List.cons_append, List.nil_append] at N1); (try k_lift B1); (first | ((refine name_env2 ?_); intro tkE aA eE qk xE) | ((try dsimp only); (try k_fold); (try ((refine name_env ?_); intro aA eE xE)))))
  dsimp only [mLed] at N1
  k_with "call builtin:len" => guard_hyp tg9 : Mine.Tg 32714; (refine len_at (l := Tg) (by k_asm) (by k_mem) tvs.length rfl (by (exact om152 (by k_asm))) ?_)
  have hl : c.us.length < 1000000 := by (exact om195 (by k_asm) (by k_asm))
  have hzz : ∀ i, i < c.us.length → c.us.getD i 0 ≠ 0 := fun i hi => hz i (by (exact om118 (by k_asm) (by k_asm)))
  clear hz
  k_with "subscriptTail Attribute Name Name ref int" => guard_hyp tg9 : Mine.Tg 32714; (rename News _ _ _ _ => N7; refine' uitem_nz (l := Us) N7 ?a2 hi9 ?a3 ?a4 hl hzz ?a6; (case a2 => k_mem); (case a3 => with_reducible assumption); (case a4 => exact range_lt (by with_reducible assumption) hul); intro z7 t7 hz7; have hb7 := beq_eq_false_iff_ne.mpr hz7)
  k_with "compareOp Eq int int" => guard_hyp tg9 : Mine.Tg 32714; (refine eq_int ?_; rw [hb7])
  k_with "CompEnd" => guard_hyp tg9 : Mine.Tg 32714; (with_unfolding_all (refine LCg.CompEnd.intro (by k_asm) (by k_asm) _ (fun _ h => h) (by first | assumption | (simp only [LCg.Off3, and_true]; assumption)) (by first | lcg_src | assumption) ?_))
  k_steps
  rename_i hI8 _ _ D8 _ _ _ _ _
  have e8 := ints_nil (fold_id _ ▸ hI8)
  subst e8
  exact Out.intro (by assumption) (by assumption) ((D8, LCg.lst []) :: mLed w M dM Fm Tg Us Pl t1 t2 t3 t4 nf nt fvs tvs c) (by kqd_sub) ⟨_, _, rfl, rfl⟩

end

section
-- part MNames
noncomputable def matchF (tags : List (Option Str)) (fs : List Str) : Option MSt := ((exAll tags fs (List.replicate tags.length 0, [])).bind (ptAll tags fs)).map fun st => (poAll tags fs (st, 0)).1
theorem matchF_split {tags : List (Option Str)} {fs : List Str} {st : MSt} (h : matchF tags fs = some st) : ∃ a b, exAll tags fs (List.replicate tags.length 0, []) = some a ∧ ptAll tags fs a = some b ∧ (poAll tags fs (b, 0)).1 = st := by
  unfold matchF at h
  cases q : exAll tags fs (List.replicate tags.length 0, []) with
  | none => rw [q] at h; cases h
  | some a =>
    rw [q] at h
    have h' : (ptAll tags fs a).map (fun st => (poAll tags fs (st, 0)).1) = some st := h
    cases z : ptAll tags fs a with
    | none => rw [z] at h'; cases h'
    | some b => rw [z] at h'; exact ⟨a, b, rfl, z, Option.some.inj h'⟩
theorem poAll_ge {tags : List (Option Str)} : ∀ {fs : List Str} {st : PSt}, st.1.2.length ≤ (poAll tags fs st).1.2.length
  | [], _ => Nat.le_refl _
  | n :: fs, st => Nat.le_trans (poIn_len (tags := tags) (name := n) (st := st)).2.2 (poAll_ge (fs := fs) (st := poIn tags n st))
theorem mfst {st : MSt} {us : List Int} {l : List (Str × Int)} (h : st = (us, l)) : st.1 = us := by rw [h]
theorem off6 {w : World} {M dM Fm Tg Us Pl : Addr} {t1 t2 t3 t4 nf nt : Nat} {fvs tvs : List Value} {c : MS} {r : List (Addr × Obj)} (h : ∀ q ∈ r, (@Ne Nat M q.1) ∧ (@Ne Nat dM q.1) ∧ (@Ne Nat Fm q.1) ∧ (@Ne Nat Tg q.1) ∧ (@Ne Nat Us q.1) ∧ (@Ne Nat Pl q.1)) : Off (mLed w M dM Fm Tg Us Pl t1 t2 t3 t4 nf nt fvs tvs c) r := by
  intro p hp q hq
  (first | (refine hideW ?_; intro gG9; obtain ⟨a1, a2, a3, a4, a5, a6⟩ := h q hq; refine (?_ : wpAny _ _ _ _ _ _); clear gG9) | obtain ⟨a1, a2, a3, a4, a5, a6⟩ := h q hq)
  simp only [mLed, List.mem_cons, List.not_mem_nil, or_false] at hp
  rcases hp with rfl | rfl | rfl | rfl | rfl | rfl <;> assumption
theorem mn_ne {M dM Fm Tg Us Pl l8 : Nat} (h1 : dM < M) (h2 : Tg < dM) (h3 : Fm < dM) (h4 : M < l8) (h5 : l8 < Us) (h6 : Us < Pl) : MNe M dM Fm Tg Us Pl := by
  have a := Nat.lt_trans h4 h5
  have b := Nat.lt_trans a h6
  exact ⟨Nat.ne_of_gt a, Nat.ne_of_gt (Nat.lt_trans h1 a), Nat.ne_of_gt (Nat.lt_trans h3 (Nat.lt_trans h1 a)), Nat.ne_of_gt (Nat.lt_trans h2 (Nat.lt_trans h1 a)), Nat.ne_of_lt h6, Nat.ne_of_gt b, Nat.ne_of_gt (Nat.lt_trans h1 b), Nat.ne_of_gt (Nat.lt_trans h3 (Nat.lt_trans h1 b)), Nat.ne_of_gt (Nat.lt_trans h2 (Nat.lt_trans h1 b))⟩
theorem mn_old {M dM Fm Tg Us Pl x : Nat} (h1 : x < dM) (h2 : dM < M) (h3 : Fm ≠ x) (h4 : x ≠ Tg) (h5 : x < Us) (h6 : x < Pl) : M ≠ x ∧ dM ≠ x ∧ Fm ≠ x ∧ Tg ≠ x ∧ Us ≠ x ∧ Pl ≠ x :=
  ⟨Nat.ne_of_gt (Nat.lt_trans h1 h2), Nat.ne_of_gt h1, h3, Ne.symm h4, Nat.ne_of_gt h5, Nat.ne_of_gt h6⟩
theorem mn_l8 {M dM Fm Tg Us Pl x : Nat} (h1 : dM < M) (h2 : Tg < dM) (h3 : Fm < dM) (h4 : M < x) (h5 : x < Us) (h6 : Us < Pl) : M ≠ x ∧ dM ≠ x ∧ Fm ≠ x ∧ Tg ≠ x ∧ Us ≠ x ∧ Pl ≠ x :=
  ⟨Nat.ne_of_lt h4, Nat.ne_of_lt (Nat.lt_trans h1 h4), Nat.ne_of_lt (Nat.lt_trans h3 (Nat.lt_trans h1 h4)), Nat.ne_of_lt (Nat.lt_trans h2 (Nat.lt_trans h1 h4)), Nat.ne_of_gt h5, Nat.ne_of_gt (Nat.lt_trans h5 h6)⟩
/-- the arguments handed over: where each pair stands, its tag, its value -/
noncomputable abbrev Arg3 := Addr × Value × Value
noncomputable def argRefs (us : List Arg3) : List Value := us.map fun u => .ref u.1
noncomputable def argLed (us : List Arg3) : List (Addr × Obj) := us.map fun u => (u.1, tup [u.2.1, u.2.2])
noncomputable def argTags (us : List Arg3) : List Value := us.map fun u => u.2.1
noncomputable def argVals (us : List Arg3) : List Value := us.map fun u => u.2.2
theorem arg_at {us : List Arg3} {i : Nat} {v : Value} (h : (argRefs us).toArray[i]? = some v) : ∃ u, us[i]? = some u ∧ v = .ref u.1 ∧ (u.1, tup [u.2.1, u.2.2]) ∈ argLed us ∧ (argTags us)[i]? = some u.2.1 ∧ (argVals us)[i]? = some u.2.2 := by
  have h' : (us.map fun u : Arg3 => Value.ref u.1)[i]? = some v := by simpa [argRefs] using h
  rw [List.getElem?_map] at h'
  cases q : us[i]? with
  | none => rw [q] at h'; cases h'
  | some u =>
    rw [q] at h'
    cases h'
    exact ⟨u, rfl, rfl, List.mem_map.mpr ⟨u, List.mem_of_getElem? q, rfl⟩, by simp [argTags, q], by simp [argVals, q]⟩
theorem tup_at {prog : Program} {w : World} {A : Around} {E : Value → Shared → Prop} {s : Shared} {h₀ : Heap} {L U : Addr} {news : List (Addr × Obj)} {value slice : PySem.Expr} {x y : Value} {i : Nat} {u : Tok} {v : Value} {Q : Value → Shared → Prop}
    (N : News h₀ L s.heap news) (hm : (U, tup [x, y]) ∈ news) (hi : i < 2) (hx : [x, y][i]? = some v) (h : Q v s)
    (hs : subscripted slice false (.ref U) (.int (i : Int) u) = operate [.ref U, .int (i : Int) u] (getItem (.ref U) (.int (i : Int) u)) := by with_unfolding_all rfl) :
    wpAny (model prog w) A (subscriptTail value slice (.ref U) (.int (i : Int) u)) Q E s :=
  item_tupleT (l := [x, y]) (j := i) ⟨_, (N _ hm).1, rfl, _, rfl⟩ (by (exact om276)) (by (exact om277 (by k_asm))) (by rcases i with _ | _ | i <;> first | rfl | (exact (om278 (by k_asm)).elim)) hx h hs
theorem off1_of {D : Addr} : ∀ {l : List (Addr × Obj)}, LCg.Off1 D l → ∀ q ∈ l, @Ne Nat q.1 D
  | [], _, _, h => nomatch h
  | p :: r, o, q, h => (List.mem_cons.mp h).elim (fun e => e ▸ o.1) (off1_of o.2 q)
set_option maxRecDepth 100000 in
set_option maxHeartbeats 4000000 in
theorem mnG (w : World) (A Fm : Addr) (us : List Arg3) (n nf : Nat) (fvs : List Value) (fs : List Str) (tags : List (Option Str)) (st : MSt)
    (hu3 : us.length ≤ 3) (hf : OSAre fvs (fs.map some)) (ht : OSAre (argTags us) tags) (hfl : fs.length ≤ 50) (hdots : Str.ofString "..." ∉ fs) (hFm : ∀ q ∈ (A, listOf (argRefs us).toArray n) :: argLed us, @Ne Nat Fm q.1)
    (hm : matchF tags fs = some st) (hsl : st.2.length ≤ 100) (hz : ∀ i, i < us.length → st.1.getD i 0 ≠ 0) :
  CallsOk w 458 [.ref Fm, .ref A, .none] 20 1200
    ((Fm, listOf fvs.toArray nf) :: (A, listOf (argRefs us).toArray n) :: argLed us) (fun _ => True) (fun v post => ∃ P Pl R o ps r, v = .ref P ∧ post = (P, tup [.ref Pl, .ref R]) :: (Pl, o) :: (R, listOf #[] r) :: (Fm, listOf fvs.toArray nf) :: (A, listOf (argRefs us).toArray n) :: argLed us ∧ o.IsDictOf (strKind PySem.Challenge.rw_pq1336_01.row.prog w) (pv ps) ∧ pd ps = st.2 ∧ (Pl == sysModules) = false) := by
  unfold CallsOk
  have tg9 : Mine.Tg 15004 := tgI 15004
  k_fill
  intro p loose mean mg mb dp un gd cn cs a ccd cl outer A₀ base h₀ L m rest s Q E B F X N hoff T hk hd hu hy hret
  (first | (refine hideW ?_; intro gG9; obtain ⟨sa, sb, hea, hpb, hst⟩ := matchF_split hm; refine (?_ : wpAny _ _ _ _ _ _); clear gG9) | obtain ⟨sa, sb, hea, hpb, hst⟩ := matchF_split hm)
  have htl : tags.length = us.length := by rw [← ht.1]; simp [argTags]
  rw [htl] at hea
  refine wpAny_call ?_
  k_dflt (refine' code_defW ?y0k1 ?y0k2 ?y0k3 ?y0k4 ?y0kO ?y0k5 ?y0kA ?y0kF ?y0kK ?y0k6 ?y0k7 ?y0k8 ?y0k9 ?y0kB ?y0kR ?_ ?y0c2 ?y0c3 ?y0c4 ?y0c5; (case y0kA => exact rfl); (case y0kF => exact rfl); (case y0kK => assumption); (case y0k1 => k_asm); (case y0k2 => k_asm); (case y0k3 => k_asm); (case y0k4 => k_asm); (case y0kO => assumption); (case y0k5 => k_asm); (case y0k6 => k_is); (case y0k7 => k_is); (case y0k8 => ktr_room); (case y0k9 => first | exact BindsTo.of_eq rfl | exact binds_K (by k_in) rfl (by k_is) rfl rfl rfl); (case y0c5 => decide); (case y0kB => exact locs rfl); (case y0kR => assumption); (case y0c2 => exact rfl); (case y0c3 => exact rfl); (case y0c4 => exact rfl); k_whole; intro g1 L1 h1 FG1 F1 N1 B1 X1 T1 G1; (try k_lift B1); (first | ((refine name_env2 ?_); intro tkE aA eE qk xE) | ((try dsimp only); (try k_fold); (try ((refine name_env ?_); intro aA eE xE)))))
  k_with "eval ListComp Subscript cons" => guard_hyp tg9 : Mine.Tg 15004; refine Halt.out ?_
  k_steps
  unfold Halt
  ((k_dflt (refine LCg.ListComp_U (F₀ := by k_asm) (by with_unfolding_all rfl) (by decide) (by rfl) (by decide) (by rfl) ?_)))
  k_with "CompSrc" => guard_hyp tg9 : Mine.Tg 15004; refine Halt.out ?_
  k_steps
  unfold Halt
  refine LCg.CompSrc.ledger (by rfl) (by k_asm) (by k_asm) (ax := A) (its := (argRefs us).toArray) (k := n) (by k_mem) (by rw [sizeLine_eq, List.size_toArray]; simp [argRefs]; (exact Nat.le_trans (by with_reducible assumption) (Nat.le_of_ble_eq_true rfl))) ?_
  intro g2
  refine comp_const (fun i ys => ys = (argTags us).take i) rfl ?turn3 ?fin3
  case turn3 =>
    intro i v ys I oI C oC3 D m₂ h11 tk11 E' hi hv' hP hC hx2 F10 N10 off10 ne10
    (first | (refine hideW ?_; intro gG9; obtain ⟨u, hu1, zq1, hu2, hu3, hu4⟩ := arg_at hv'; refine (?_ : wpAny _ _ _ _ _ _); clear gG9; (first | subst zq1 | cases zq1)) | obtain ⟨u, hu1, rfl, hu2, hu3, hu4⟩ := arg_at hv')
    k_with "CompEnd" => guard_hyp tg9 : Mine.Tg 15004; refine Halt.out ?_
    k_with "subscriptTail Name Constant ref int" => guard_hyp tg9 : Mine.Tg 15004; (refine tup_at (i := 0) (by k_asm) (List.mem_of_mem_tail (List.mem_of_mem_tail (List.mem_of_mem_tail (List.mem_of_mem_tail (List.mem_of_mem_tail hu2))))) (by decide) rfl ?_)
    k_steps
    unfold Halt
    refine LCg.CompEnd.intro (by assumption) N10 _ (fun _ h => h) off10 (Or.inr ⟨_, by k_mem, rfl, _, rfl⟩) ⟨rfl, ?_⟩
    rw [List.take_add_one, hu3, hP]
    rfl
  case fin3 =>
    intro ys hP
    unfold LCg.FinE
    intro Tg h3 tk3 F10 N10 o10
    k_with "call ref" => guard_hyp tg9 : Mine.Tg 15004; ((with_reducible show wpAny _ _ (call (Value.ref 393) _) _ _ _); refine Halt.out ?_)
    rw [List.take_of_length_le (by simp [argTags, argRefs])] at hP
    subst hP
    k_with "call builtin:len" => guard_hyp tg9 : Mine.Tg 15004; (refine len_at (l := Tg) (by k_asm) (by k_mem) us.length (by simp [argTags]) (by (exact om279 (by k_asm))) ?_)
    k_with "call ref" => guard_hyp tg9 : Mine.Tg 15004; ((with_reducible show wpAny _ _ (call (Value.ref 393) _) _ _ _); refine Halt.out ?_)
    k_steps
    rename_i M dM _ l61 l60 _ _ _ _ _ _ _ _ _ _ _ _ _ _ _ _ _ _ l8 _ l28 _ Us _ l19 i1 n1 _ _ _ _ _ _ _ _ _ Pl _ o8 l9 lo8 hs8 _ _ _ _ F6 N6 _ _ _ _ _ _ _ _ _ _
    unfold Halt
    have hrep : (List.replicate ((us.length : Nat) : Int).toNat [(0 : Int)]).flatten = List.replicate us.length 0 := by simp
    rw [hrep] at i1
    have h0 : MOk w (List.replicate us.length 0, []) ⟨listOf _ 0, List.replicate us.length 0, o8, []⟩ := ⟨⟨_, _, i1, rfl, rfl⟩, hs8, rfl⟩
    have hul0 : (List.replicate us.length (0 : Int), ([] : List (Str × Int))).1.length = tags.length := by rw [htl]; exact List.length_replicate
    have oF := off1_of o10
    have tF : @Ne Nat Tg Fm := Ne.symm (oF _ (.head _))
    have tD : @LT.lt Nat _ Tg dM := l61 _ (.head _)
    have fD : @LT.lt Nat _ Fm dM := l61 _ (.tail _ (.head _))
    have mL : @LT.lt Nat _ M l8 := lt_in l28 (by k_mem)
    have dL : @LT.lt Nat _ dM l8 := lt_in l28 (by k_mem)
    have lU : @LT.lt Nat _ l8 Us := lt_in l19 (by k_mem)
    have lP : @LT.lt Nat _ Us Pl := lt_in l9 (by k_mem)
    have hne : MNe M dM Fm Tg Us Pl := mn_ne l60 tD fD mL lU lP
    have u1 := manyM_up exRow_up hea
    have u2 := manyM_up ptIn_up hpb
    have u3 := poAll_len (tags := tags) (fs := fs) (st := (sb, 0))
    have hsal : sa.1.length = tags.length := u1.1.trans hul0
    have hsbl : sb.1.length = tags.length := u2.1.trans hsal
    have hof : ∀ (lo : Obj) (t1 t2 t3 t4 nt : Nat) (c : MS), Off (mLed w M dM Fm Tg Us Pl t1 t2 t3 t4 nf nt fvs (argTags us) c) ((l8, lo) :: (A, listOf (argRefs us).toArray n) :: argLed us) := fun lo t1 t2 t3 t4 nt c => off6 (r := (l8, lo) :: (A, listOf (argRefs us).toArray n) :: argLed us) (List.forall_mem_cons.mpr ⟨mn_l8 l60 tD fD mL lU lP, fun q hq => mn_old (x := q.1) (l61 q (.tail _ (.tail _ hq))) l60 (hFm q hq) (oF q (.tail _ hq)) (Nat.lt_trans (l61 q (.tail _ (.tail _ hq))) (Nat.lt_trans dL lU)) (Nat.lt_trans (l61 q (.tail _ (.tail _ hq))) (Nat.lt_trans dL (Nat.lt_trans lU lP)))⟩)
    have u4 := poAll_ge (tags := tags) (fs := fs) (st := (sb, 0))
    rw [hst] at u4
    have u6 : sb.2.length ≤ 100 := Nat.le_trans u4 hsl
    have u7 : sa.2.length ≤ 100 := Nat.le_trans u2.2 u6
    have hfl' : fs.length ≤ 100 := Nat.le_trans hfl (by decide)
    have htl' : tags.length ≤ 100 := htl ▸ Nat.le_trans hu3 (by decide)
    have hl3 : (argTags us).length = us.length := List.length_map ..
    have hsl3 : st.1.length = (argTags us).length := by rw [← hst, hl3, u3.1, hsbl, htl]
    (((k_dflt (refine (useM (hof _ _ _ _ _ _ _) (exact_ok w M dM Fm Tg Us Pl _ _ _ _ nf _ fvs (argTags us) fs tags ⟨_, _, _, _⟩ _ _ hf ht h0 hul0 lo8 hne hfl' htl' u7 hdots hea)) (by k_asm) (by k_asm) (by k_asm) (by k_asm) (by k_asm) (by first | exact rfl | assumption) (by ktr_room) (by ktr_units) (by first | exact True.intro | assumption) (by first | exact fun _ h => h | kqd_sub) ?_)); intro v9 p9 h9 tk9 F9 N9 O9 P9))
    (first | (refine hideW ?_; intro gG9; obtain ⟨zq1, c1, zq2, ok1⟩ := P9; refine (?_ : wpAny _ _ _ _ _ _); clear gG9; (first | subst zq1 | cases zq1); (first | subst zq2 | cases zq2)) | obtain ⟨rfl, c1, rfl, ok1⟩ := P9)
    dsimp only [mLed, List.cons_append, List.nil_append] at N9
    k_with "call ref" => guard_hyp tg9 : Mine.Tg 15004; (first
      | ((with_reducible show wpAny _ _ (call (Value.ref 400) _) _ _ _); (((k_dflt (refine (useM (hof _ _ _ _ _ _ _) (partial_ok w M dM Fm Tg Us Pl _ _ _ _ nf _ fvs (argTags us) fs tags c1 sa sb hf ht ok1 hsal lo8 hne hfl' htl' u6 hdots hpb)) (by k_asm) (by k_asm) (by k_asm) (by k_asm) (by k_asm) (by first | exact rfl | assumption) (by ktr_room) (by ktr_units) (by first | exact True.intro | assumption) (by first | exact fun _ h => h | kqd_sub) ?_)); intro v9 p9 h9 tk9 F9 N9 O9 P9)); obtain ⟨rfl, c2, rfl, ok2⟩ := P9; dsimp only [mLed, List.cons_append, List.nil_append] at N9)
      | (with_reducible show wpAny _ _ (call (Value.ref 414) _) _ _ _; refine Halt.out ?_)
      | (with_reducible show wpAny _ _ (call (Value.ref 426) _) _ _ _; refine Halt.out ?_))
    k_steps
    unfold Halt
    (((k_dflt (refine (useM (hof _ _ _ _ _ _ _) (positional_ok w M dM Fm Tg Us Pl _ _ _ _ nf _ fvs (argTags us) fs tags c2 sb hf ht ok2 hsbl lo8 hne hfl' htl' u6 hdots)) (by k_asm) (by k_asm) (by k_asm) (by k_asm) (by k_asm) (by first | exact rfl | assumption) (by ktr_room) (by ktr_units) (by first | exact True.intro | assumption) (by first | exact fun _ h => h | kqd_sub) ?_)); intro v9 p9 h9 tk9 F9 N9 O9 P9))
    (first | (refine hideW ?_; intro gG9; obtain ⟨zq1, c3, zq2, ok3⟩ := P9; refine (?_ : wpAny _ _ _ _ _ _); clear gG9; (first | subst zq1 | cases zq1); (first | subst zq2 | cases zq2)) | obtain ⟨rfl, c3, rfl, ok3⟩ := P9)
    rw [hst] at ok3
    (first | (refine hideW ?_; intro gG9; obtain ⟨ok3a, ok3b, ok3c⟩ := ok3; refine (?_ : wpAny _ _ _ _ _ _); clear gG9) | obtain ⟨ok3a, ok3b, ok3c⟩ := ok3)
    have hus := mfst ok3c
    dsimp only [mLed, List.cons_append, List.nil_append] at N9
    k_steps
    unfold Halt
    (((k_dflt (refine (useM (hof _ _ _ _ _ _ _) (rest_ok w M dM Fm Tg Us Pl _ _ _ _ nf _ fvs (argTags us) c3 ok3a (by rw [← hus]; exact hsl3) (by rw [hl3]; (exact Nat.le_trans (by with_reducible assumption) (Nat.le_of_ble_eq_true rfl))) (by rw [hl3, ← hus]; exact hz))) (by k_asm) (by k_asm) (by k_asm) (by k_asm) (by k_asm) (by first | exact rfl | assumption) (by ktr_room) (by ktr_units) (by first | exact True.intro | assumption) (by first | exact fun _ h => h | kqd_sub) ?_)); intro v9 p9 h9 tk9 F9 N9 O9 P9))
    (first | (refine hideW ?_; intro gG9; obtain ⟨R9, r9, zq1, zq2⟩ := P9; refine (?_ : wpAny _ _ _ _ _ _); clear gG9; (first | subst zq1 | cases zq1); (first | subst zq2 | cases zq2)) | obtain ⟨R9, r9, rfl, rfl⟩ := P9)
    dsimp only [mLed, List.cons_append, List.nil_append] at N9
    k_steps
    exact Out.intro (by assumption) (by assumption) ((_, tup [.ref Pl, .ref R9]) :: (Pl, c3.o) :: (R9, listOf #[] r9) :: (Fm, listOf fvs.toArray nf) :: (A, listOf (argRefs us).toArray n) :: argLed us) (by kqd_sub) ⟨_, _, _, _, c3.ps, _, rfl, rfl, ok3b, by rw [ok3c], lo8⟩

end

section
-- part Take
/-- where a formal's argument is -/
noncomputable def placeOf (pl : List (Str × Int)) (x : Str) : Option Int := (pl.find? fun p => p.1 = x).map (·.2)
noncomputable def outF (pl : List (Str × Int)) (vals : List Value) (x : Str) : Value := match placeOf pl x with | some k => vals.getD k.toNat .none | none => .none
theorem news_sub {g h : Heap} {L : Addr} {all l : List (Addr × Obj)} (N : News g L h all) (hs : ∀ q ∈ l, q ∈ all) : News g L h l := fun q hq => N q (hs q hq)
theorem off2 {l : List (Addr × Obj)} {a b : Addr × Obj} (h : ∀ p ∈ l, (@Ne Nat p.1 a.1) ∧ (@Ne Nat p.1 b.1)) : Off l [a, b] := by
  intro p hp q hq
  rcases List.mem_cons.mp hq with rfl | hq
  · exact (h p hp).1
  · rw [List.mem_singleton.mp hq]; exact (h p hp).2
theorem valueAt_place {ps : List (Str × Int × Nat)} {x : Str} : match placeOf (pd ps) x with | some k => ∃ t, valueAt (pv ps) x = some (.int k t) | none => valueAt (pv ps) x = none := by
  induction ps with
  | nil => rfl
  | cons p r ih =>
    have e1 : valueAt (pv (p :: r)) x = if p.1 = x then some (.int p.2.1 p.2.2) else valueAt (pv r) x := by
      unfold valueAt
      simp only [List.map_cons, List.find?_cons]
      by_cases e : p.1 = x
      · simp [e]
      · simp [e]
    have e2 : placeOf (pd (p :: r)) x = if p.1 = x then some p.2.1 else placeOf (pd r) x := by
      unfold placeOf
      simp only [List.map_cons, List.find?_cons]
      by_cases e : p.1 = x
      · simp [e]
      · simp [e]
    rw [e1, e2]
    by_cases e : p.1 = x
    · rw [if_pos e, if_pos e]; exact ⟨_, rfl⟩
    · rw [if_neg e, if_neg e]; exact ih
theorem vals_at {us : List Arg3} {u : Arg3} {i : Nat} (h : us[i]? = some u) : (argVals us).getD i .none = u.2.2 := by
  simp [argVals, List.getD_eq_getElem?_getD, h]
theorem refs_at {us : List Arg3} {u : Arg3} {i : Nat} (h : us[i]? = some u) : (argRefs us)[i]? = some (.ref u.1) := by
  simp [argRefs, h]
set_option maxRecDepth 100000 in
set_option maxHeartbeats 4000000 in
theorem takeAll (w : World) (A Fo : Addr) (us : List Arg3) (n nf : Nat) (fvs : List Value) (fs : List Str) (tags : List (Option Str)) (st : MSt)
    (hu3 : us.length ≤ 3) (hf : OSAre fvs (fs.map some)) (ht : OSAre (argTags us) tags) (hfl : fs.length ≤ 50) (hdots : Str.ofString "..." ∉ fs)
    (hm : matchF tags fs = some st) (hsl : st.2.length ≤ 100) (hz : ∀ i, i < us.length → st.1.getD i 0 ≠ 0) (hFo : ∀ q ∈ (A, listOf (argRefs us).toArray n) :: argLed us, @Ne Nat Fo q.1) (hpl : ∀ x k, placeOf st.2 x = some k → 0 ≤ k ∧ k < us.length) :
  CallsOk w 464 [.ref A, .ref Fo] 40 2000
    ((Fo, listOf fvs.toArray nf) :: (A, listOf (argRefs us).toArray n) :: argLed us) (fun _ => True) (fun v post => ∃ V k, v = .ref V ∧ post = (V, listOf (fs.map (outF st.2 (argVals us))).toArray k) :: (Fo, listOf fvs.toArray nf) :: (A, listOf (argRefs us).toArray n) :: argLed us) := by
  unfold CallsOk
  have tg9 : Mine.Tg 14304 := tgI 14304
  k_fill
  intro p loose mean mg mb dp un gd cn cs a ccd cl outer A₀ base h₀ L m rest s Q E B F X N hoff T hk hd hu hy hret
  refine wpAny_call ?_
  k_dflt (refine' code_defWC ?y0k1 ?y0k2 ?y0k3 ?y0k4 ?y0kO ?y0k5 ?y0kA ?y0kF ?y0kK ?y0k6 ?y0k7 ?y0k8 ?y0k9 ?y0kB ?y0kD ?y0kR ?_ ?y0c2 ?y0c3 ?y0c4; (case y0kA => exact rfl); (case y0kF => exact rfl); (case y0kK => assumption); (case y0k1 => k_asm); (case y0k2 => k_asm); (case y0k3 => k_asm); (case y0k4 => k_asm); (case y0kO => assumption); (case y0k5 => k_asm); (case y0k6 => k_is); (case y0k7 => k_is); (case y0k8 => ktr_room); (case y0k9 => first | exact BindsTo.of_eq rfl | exact binds_K (by k_in) rfl (by k_is) rfl rfl rfl); (case y0kB => exact rfl); (case y0kD => decide +kernel); (case y0kR => assumption); (case y0c2 => exact rfl); (case y0c3 => exact rfl); (case y0c4 => exact rfl); k_whole; intro g1 L1 h1 tk1 cells1 FG1 F1 N1 Y1 B1 X1 T1 l1 G1; (try k_lt l1); k_cells Y1; (try dsimp only [List.cons_append, List.nil_append] at N1); (try k_lift B1); (first | ((refine name_env2 ?_); intro tkE aA eE qk xE) | ((try dsimp only); (try k_fold); (try ((refine name_env ?_); intro aA eE xE)))))
  have hfvl : fvs.length ≤ 50 := by rw [hf.1, List.length_map]; exact hfl
  k_with "call type:list cons nil" => guard_hyp tg9 : Mine.Tg 14304; (k_dflt (refine' kup_listOf (zs := fvs) (its2 := fvs.toArray) ?F ?N ?b (List.toList_toArray) ?_ ?z; (case F => k_asm); (case N => k_asm); (case b => k_mem); (case z => rw [sizeLine_eq, List.toList_toArray]; (exact Nat.le_trans (by with_reducible assumption) (Nat.le_of_ble_eq_true rfl)))); intro D5 c5 h5 F5 N5 l5; (try k_lt l5))
  k_with "call ref" => guard_hyp tg9 : Mine.Tg 14304; ((with_reducible show wpAny _ _ (call (Value.ref 458) _) _ _ _); refine Halt.out ?_)
  k_steps
  rename_i o8 d8 _ _ _
  unfold Halt
  have oldL : ∀ q ∈ (A, listOf (argRefs us).toArray n) :: argLed us, @LT.lt Nat _ q.1 L1 := fun q hq => l1 q (.tail _ hq)
  have hof : Off ((D5, listOf fvs.toArray c5) :: (A, listOf (argRefs us).toArray n) :: argLed us) [(L1 + 1, o8), (Fo, listOf fvs.toArray nf)] := off2 (List.forall_mem_cons.mpr ⟨⟨gt_ne (lt_in l5 (by k_mem)), gt_ne (lt_in l5 (by k_mem))⟩, fun q hq => ⟨lt_ne (lt_up (oldL q hq)), Ne.symm (hFo q hq)⟩⟩)
  (((k_dflt (refine (useM hof (mnG w A D5 us n c5 fvs fs tags st hu3 hf ht hfl hdots (fun q hq => Nat.ne_of_gt (l5 q (.tail _ (.tail _ hq)))) hm hsl hz)) (by k_asm) (by k_asm) (by k_asm) (by k_asm) (by k_asm) (by first | exact rfl | assumption) (by ktr_room) (by ktr_units) (by first | exact True.intro | assumption) (by first | exact fun _ h => h | kqd_sub) ?_)); intro v9 p9 h9 tk9 F9 N9 O9 P9))
  (first | (refine hideW ?_; intro gG9; obtain ⟨P8, Pl, R8, o9, ps, r8, zq1, zq2, hd9, hpd, lo9⟩ := P9; refine (?_ : wpAny _ _ _ _ _ _); clear gG9; (first | subst zq1 | cases zq1); (first | subst zq2 | cases zq2)) | obtain ⟨P8, Pl, R8, o9, ps, r8, rfl, rfl, hd9, hpd, lo9⟩ := P9)
  replace N9 := news_sub (l := [(P8, tup [.ref Pl, .ref R8]), (Pl, o9), (R8, listOf #[] r8), (Fo, listOf fvs.toArray nf), (A, listOf (argRefs us).toArray n), (L1 + 1, o8)] ++ argLed us) N9 (List.forall_mem_append.mpr ⟨by kqd_sub, fun q hq => List.mem_append_left _ (.tail _ (.tail _ (.tail _ (.tail _ (.tail _ hq)))))⟩)
  dsimp only [List.cons_append, List.nil_append] at N9
  k_with "pyIter ref" => guard_hyp tg9 : Mine.Tg 14304; refine Halt.out ?_
  k_steps
  rename_i V8 _ l8 _ F8 N8 _ _ _ _ _
  unfold Halt
  have hplc : ∀ x, match placeOf st.2 x with | some k => ∃ t, valueAt (pv ps) x = some (.int k t) | none => valueAt (pv ps) x = none := fun x => hpd ▸ valueAt_place
  have hVa : ∀ p ∈ argLed us, @Ne Nat p.1 V8 := fun p hp => Nat.ne_of_lt (l8 p (.tail _ (.tail _ (.tail _ (.tail _ (.tail _ (.tail _ hp)))))))
  refine' for_listL (l := Fo) (vs := fvs) (nn := nf) (fun c : List Value × Nat => (V8, listOf c.1.toArray c.2) :: (Pl, o9) :: (Fo, listOf fvs.toArray nf) :: (A, listOf (argRefs us).toArray n) :: (L1 + 1, o8) :: argLed us) (fun _ => []) [] (fun j c => c.1 = (fs.take j).map (outF st.2 (argVals us))) ([], 0) (by rfl) (fun _ => .tail _ (.tail _ (.head _))) F8 (news_sub (l := (V8, listOf #[] 0) :: (Pl, o9) :: (Fo, listOf fvs.toArray nf) :: (A, listOf (argRefs us).toArray n) :: (L1 + 1, o8) :: argLed us) N8 (by kqd_sub)) (List.forall_mem_nil _) rfl ?turn1 ?done1
  case turn1 =>
    intro c j v u h4 tk4 own hj hv4 hoff4 ha4 hP F4 N4
    (first | (refine hideW ?_; intro gG9; obtain ⟨x, hx, hxv⟩ := hf.2 j v hv4; refine (?_ : wpAny _ _ _ _ _ _); clear gG9) | obtain ⟨x, hx, hxv⟩ := hf.2 j v hv4)
    obtain ⟨name, hname, rfl⟩ : ∃ name, fs[j]? = some name ∧ x = some name := by
      rw [List.getElem?_map] at hx
      cases q : fs[j]? with
      | none => rw [q] at hx; cases hx
      | some z => rw [q] at hx; cases hx; exact ⟨z, rfl, rfl⟩
    obtain ⟨tn, rfl⟩ := hxv
    have hdn : (name == Str.ofString "...") = false := beq_eq_false_iff_ne.mpr fun e => hdots (e ▸ List.mem_of_getElem? hname)
    have hVo : ∀ p ∈ own, @Ne Nat p.1 V8 := fun p hp => hoff4 p hp V8 (.head _)
    dsimp only [List.cons_append] at N4
    have hcl4 : c.1.length ≤ 50 := by rw [hP, List.length_map, List.length_take]; (exact om201 (by k_asm))
    have hq := hplc name
    have hend : ∀ {v : Value}, outF st.2 (argVals us) name = v → c.1 ++ [v] = (fs.take (j + 1)).map (outF st.2 (argVals us)) := fun e => by
      rw [hP, List.take_add_one, hname, ← e]
      simp
    cases hpn : placeOf st.2 name with
    | none =>
      rw [hpn] at hq
      k_with "compareOp In str ref" => guard_hyp tg9 : Mine.Tg 14304; (refine kda_in (knd := strKind _ _) (by k_asm) (by k_mem) hd9 lo9 (strKind_is _ _ _ _) false (by rw [hq]; rfl) ?_)
      k_steps
      rename (News _ _ _ _) => N10
      simp +zetaDelta only [List.push_toArray] at N10
      exact turn_next (c.1 ++ [Value.none], c.2 + 1) (by assumption) N10 (fun p hp => List.mem_append_left own (as := (V8, listOf (c.1 ++ [Value.none]).toArray (c.2 + 1)) :: (Pl, o9) :: (Fo, listOf fvs.toArray nf) :: (A, listOf (argRefs us).toArray n) :: (L1 + 1, o8) :: argLed us) hp) (fun p hp => List.mem_append_right ((V8, listOf (c.1 ++ [Value.none]).toArray (c.2 + 1)) :: (Pl, o9) :: (Fo, listOf fvs.toArray nf) :: (A, listOf (argRefs us).toArray n) :: (L1 + 1, o8) :: argLed us) hp) rfl (List.forall_mem_nil _) (by (intro z; (first | intro h1 h2 h3 | intro h2 h3); (repeat (first | with_reducible rfl | exact relS h3 | refine relI (by first | with_reducible assumption | exact relN h3 (by with_unfolding_all rfl) | exact relP h2 (by with_unfolding_all rfl)) ?_ | refine relK (by first | with_reducible assumption | exact List.forall_mem_nil _ | exact relM h2 rfl) ?_ | exact rfl)); done)) (hend (by simp [outF, hpn]))
    | some k =>
      rw [hpn] at hq
      obtain ⟨tq, hq⟩ := hq
      obtain ⟨hk0, hk1⟩ := hpl name k hpn
      obtain ⟨i, rfl⟩ := Int.eq_ofNat_of_zero_le hk0
      have hi3 : i < us.length := Int.ofNat_lt.mp hk1
      obtain ⟨u3, hu1⟩ : ∃ u3, us[i]? = some u3 := ⟨_, List.getElem?_eq_getElem hi3⟩
      have hu2 : (u3.1, tup [u3.2.1, u3.2.2]) ∈ argLed us := List.mem_map.mpr ⟨u3, List.mem_of_getElem? hu1, rfl⟩
      k_with "compareOp In str ref" => guard_hyp tg9 : Mine.Tg 14304; (refine kda_in (knd := strKind _ _) (by k_asm) (by k_mem) hd9 lo9 (strKind_is _ _ _ _) true (by rw [hq]; rfl) ?_)
      k_with "subscriptTail Name Name ref str" => guard_hyp tg9 : Mine.Tg 14304; (refine kda_item (knd := strKind _ _) (by k_asm) (by k_mem) hd9 (strKind_is _ _ _ _) hq ?_)
      k_with "subscriptTail Name Subscript ref int" => guard_hyp tg9 : Mine.Tg 14304; (refine item_at (l := A) (i := i) (by k_asm) (by k_mem) (refs_at hu1) rfl (by (exact om202 (by k_asm) (by k_asm))) ?_)
      k_with "subscriptTail Name Constant ref int" => guard_hyp tg9 : Mine.Tg 14304; (refine tup_at (i := 1) (by k_asm) (.tail _ (.tail _ (.tail _ (.tail _ (.tail _ (List.mem_append_left _ hu2)))))) (by decide) rfl ?_)
      k_steps
      rename (News _ _ _ _) => N10
      simp +zetaDelta only [List.push_toArray] at N10
      exact turn_next (c.1 ++ [u3.2.2], c.2 + 1) (by assumption) N10 (fun p hp => List.mem_append_left own (as := (V8, listOf (c.1 ++ [u3.2.2]).toArray (c.2 + 1)) :: (Pl, o9) :: (Fo, listOf fvs.toArray nf) :: (A, listOf (argRefs us).toArray n) :: (L1 + 1, o8) :: argLed us) hp) (fun p hp => List.mem_append_right ((V8, listOf (c.1 ++ [u3.2.2]).toArray (c.2 + 1)) :: (Pl, o9) :: (Fo, listOf fvs.toArray nf) :: (A, listOf (argRefs us).toArray n) :: (L1 + 1, o8) :: argLed us) hp) rfl (List.forall_mem_nil _) (by (intro z; (first | intro h1 h2 h3 | intro h2 h3); (repeat (first | with_reducible rfl | exact relS h3 | refine relI (by first | with_reducible assumption | exact relN h3 (by with_unfolding_all rfl) | exact relP h2 (by with_unfolding_all rfl)) ?_ | refine relK (by first | with_reducible assumption | exact List.forall_mem_nil _ | exact relM h2 rfl) ?_ | exact rfl)); done)) (hend (by simp only [outF, hpn]; exact vals_at hu1))
  case done1 =>
    intro c u h4 tk4 hP F4 N4
    k_steps
    rw [List.take_of_length_le (by rw [hf.1, List.length_map]; exact Nat.le_refl _)] at hP
    exact Out.intro (by assumption) (by assumption) ((V8, listOf c.1.toArray c.2) :: (Fo, listOf fvs.toArray nf) :: (A, listOf (argRefs us).toArray n) :: argLed us) (by kqd_sub) ⟨V8, c.2, rfl, by rw [hP]⟩

end

section
-- part Shapes
noncomputable abbrev S (x : String) : Str := Str.ofString x
theorem sh1 : matchF [some (Str.ofString "x"), some (Str.ofString "base")] [Str.ofString "x", Str.ofString "base"] = some ([2, 2], [(Str.ofString "x", 0), (Str.ofString "base", 1)]) := by decide +kernel
theorem sh2 : matchF [none] [Str.ofString "x", Str.ofString "base"] = some ([2], [(Str.ofString "x", 0)]) := by decide +kernel
theorem sh3 : matchF [some (Str.ofString "b"), none] [Str.ofString "x", Str.ofString "base"] = some ([1, 2], [(Str.ofString "base", 0), (Str.ofString "x", 1)]) := by decide +kernel
theorem sh4 : matchF [none, none, none] [Str.ofString "old", Str.ofString "new", Str.ofString "x"] = some ([2, 2, 2], [(Str.ofString "old", 0), (Str.ofString "new", 1), (Str.ofString "x", 2)]) := by decide +kernel
theorem sh5 : matchF [none, none, some (Str.ofString "x")] [Str.ofString "old", Str.ofString "new", Str.ofString "x"] = some ([2, 2, 2], [(Str.ofString "x", 2), (Str.ofString "old", 0), (Str.ofString "new", 1)]) := by decide +kernel
theorem sh6 : matchF [some (Str.ofString "new"), some (Str.ofString "old"), none] [Str.ofString "old", Str.ofString "new", Str.ofString "x"] = some ([2, 2, 2], [(Str.ofString "old", 1), (Str.ofString "new", 0), (Str.ofString "x", 2)]) := by decide +kernel
theorem sh7 : matchF [none, some (Str.ofString "sep")] [Str.ofString "names", Str.ofString "sep"] = some ([2, 2], [(Str.ofString "sep", 1), (Str.ofString "names", 0)]) := by decide +kernel
theorem sh8 : matchF [none] [Str.ofString "names", Str.ofString "sep"] = some ([2], [(Str.ofString "names", 0)]) := by decide +kernel

end

section
-- part Outs
theorem place_in {pl : List (Str × Int)} {m : Int} (h : ∀ p ∈ pl, 0 ≤ p.2 ∧ p.2 < m) (x : Str) (k : Int) (e : placeOf pl x = some k) : 0 ≤ k ∧ k < m := by
  unfold placeOf at e
  cases q : pl.find? (fun p => p.1 = x) with
  | none => rw [q] at e; cases e
  | some p => rw [q] at e; cases e; exact h p (List.mem_of_find?_eq_some q)
theorem out_some {pl : List (Str × Int)} {vals : List Value} {x : Str} {k : Int} (h : placeOf pl x = some k) : outF pl vals x = vals.getD k.toNat .none := by
  unfold outF; rw [h]
theorem out_none {pl : List (Str × Int)} {vals : List Value} {x : Str} (h : placeOf pl x = none) : outF pl vals x = .none := by
  unfold outF; rw [h]
theorem out1 (v1 v2 : Value) : [Str.ofString "x", Str.ofString "base"].map (outF [(Str.ofString "x", 0), (Str.ofString "base", 1)] [v1, v2]) = [v1, v2] := by
  rw [List.map_cons, List.map_cons, List.map_nil, out_some (k := 0) (by decide +kernel), out_some (k := 1) (by decide +kernel)]; rfl
theorem out2 (v1 : Value) : [Str.ofString "x", Str.ofString "base"].map (outF [(Str.ofString "x", 0)] [v1]) = [v1, .none] := by
  rw [List.map_cons, List.map_cons, List.map_nil, out_some (k := 0) (by decide +kernel), out_none (by decide +kernel)]; rfl
theorem out3 (v1 v2 : Value) : [Str.ofString "x", Str.ofString "base"].map (outF [(Str.ofString "base", 0), (Str.ofString "x", 1)] [v1, v2]) = [v2, v1] := by
  rw [List.map_cons, List.map_cons, List.map_nil, out_some (k := 1) (by decide +kernel), out_some (k := 0) (by decide +kernel)]; rfl
theorem out4 (v1 v2 v3 : Value) : [Str.ofString "old", Str.ofString "new", Str.ofString "x"].map (outF [(Str.ofString "old", 0), (Str.ofString "new", 1), (Str.ofString "x", 2)] [v1, v2, v3]) = [v1, v2, v3] := by
  rw [List.map_cons, List.map_cons, List.map_cons, List.map_nil, out_some (k := 0) (by decide +kernel), out_some (k := 1) (by decide +kernel), out_some (k := 2) (by decide +kernel)]; rfl
theorem out5 (v1 v2 v3 : Value) : [Str.ofString "old", Str.ofString "new", Str.ofString "x"].map (outF [(Str.ofString "x", 2), (Str.ofString "old", 0), (Str.ofString "new", 1)] [v1, v2, v3]) = [v1, v2, v3] := by
  rw [List.map_cons, List.map_cons, List.map_cons, List.map_nil, out_some (k := 0) (by decide +kernel), out_some (k := 1) (by decide +kernel), out_some (k := 2) (by decide +kernel)]; rfl
theorem out6 (v1 v2 v3 : Value) : [Str.ofString "old", Str.ofString "new", Str.ofString "x"].map (outF [(Str.ofString "old", 1), (Str.ofString "new", 0), (Str.ofString "x", 2)] [v1, v2, v3]) = [v2, v1, v3] := by
  rw [List.map_cons, List.map_cons, List.map_cons, List.map_nil, out_some (k := 1) (by decide +kernel), out_some (k := 0) (by decide +kernel), out_some (k := 2) (by decide +kernel)]; rfl
theorem out7 (v1 v2 : Value) : [Str.ofString "names", Str.ofString "sep"].map (outF [(Str.ofString "sep", 1), (Str.ofString "names", 0)] [v1, v2]) = [v1, v2] := by
  rw [List.map_cons, List.map_cons, List.map_nil, out_some (k := 0) (by decide +kernel), out_some (k := 1) (by decide +kernel)]; rfl
theorem out8 (v1 : Value) : [Str.ofString "names", Str.ofString "sep"].map (outF [(Str.ofString "names", 0)] [v1]) = [v1, .none] := by
  rw [List.map_cons, List.map_cons, List.map_nil, out_some (k := 0) (by decide +kernel), out_none (by decide +kernel)]; rfl
/-- the arguments us, matched to the formals fs, give outs -/
noncomputable def TakeOk (us : List Arg3) (fs : List Str) (outs : List Value) : Prop :=
  ∃ tags st, us.length ≤ 3 ∧ OSAre (argTags us) tags ∧ matchF tags fs = some st ∧ st.2.length ≤ 100 ∧ (∀ i, i < us.length → st.1.getD i 0 ≠ 0) ∧ (∀ x k, placeOf st.2 x = some k → 0 ≤ k ∧ k < (us.length : Int)) ∧ fs.map (outF st.2 (argVals us)) = outs
theorem takeOk {w : World} {A Fo : Addr} {n nf : Nat} {us : List Arg3} {fs : List Str} {outs fvs : List Value} (h : TakeOk us fs outs) (hf : OSAre fvs (fs.map some)) (hfl : fs.length ≤ 50) (hd : Str.ofString "..." ∉ fs) (hFo : ∀ q ∈ (A, listOf (argRefs us).toArray n) :: argLed us, @Ne Nat Fo q.1) :
    CallsOk w 464 [.ref A, .ref Fo] 40 2000 ((Fo, listOf fvs.toArray nf) :: (A, listOf (argRefs us).toArray n) :: argLed us) (fun _ => True) (fun v post => ∃ V k, v = .ref V ∧ post = (V, listOf outs.toArray k) :: (Fo, listOf fvs.toArray nf) :: (A, listOf (argRefs us).toArray n) :: argLed us) := by
  (first | (refine hideW ?_; intro gG9; obtain ⟨tags, st, h1, h2, h3, h4, h5, h6, h7⟩ := h; refine (?_ : wpAny _ _ _ _ _ _); clear gG9) | obtain ⟨tags, st, h1, h2, h3, h4, h5, h6, h7⟩ := h)
  have r := takeAll w A Fo us n nf fvs fs tags st h1 hf h2 hfl hd h3 h4 h5 hFo h6
  rw [h7] at r
  exact r
theorem osa2 {x y : Str} {t u : Nat} : OSAre [.str x t, .str y u] ([x, y].map some) := .cons ⟨_, rfl⟩ (.cons ⟨_, rfl⟩ .nil)
theorem osa3 {x y z : Str} {t u v : Nat} : OSAre [.str x t, .str y u, .str z v] ([x, y, z].map some) := .cons ⟨_, rfl⟩ (.cons ⟨_, rfl⟩ (.cons ⟨_, rfl⟩ .nil))
theorem tkA {U1 U2 : Addr} {v1 v2 : Value} {k1 k2 : Nat} : TakeOk [(U1, .str (Str.ofString "x") k1, v1), (U2, .str (Str.ofString "base") k2, v2)] [Str.ofString "x", Str.ofString "base"] [v1, v2] := ⟨[some (Str.ofString "x"), some (Str.ofString "base")], _, Nat.le_of_ble_eq_true rfl, (.cons ⟨_, rfl⟩ (.cons ⟨_, rfl⟩ .nil)), sh1, by decide, (show ∀ i, i < 2 → _ from by decide), place_in (m := ((2 : Nat) : Int)) (by decide), out1 _ _⟩
theorem tkB {U1 : Addr} {v1 : Value} : TakeOk [(U1, .none, v1)] [Str.ofString "x", Str.ofString "base"] [v1, .none] := ⟨[none], _, Nat.le_of_ble_eq_true rfl, (.cons rfl .nil), sh2, by decide, (show ∀ i, i < 1 → _ from by decide), place_in (m := ((1 : Nat) : Int)) (by decide), out2 _⟩
theorem tkC {U1 U2 : Addr} {v1 v2 : Value} {k1 : Nat} : TakeOk [(U1, .str (Str.ofString "b") k1, v1), (U2, .none, v2)] [Str.ofString "x", Str.ofString "base"] [v2, v1] := ⟨[some (Str.ofString "b"), none], _, Nat.le_of_ble_eq_true rfl, (.cons ⟨_, rfl⟩ (.cons rfl .nil)), sh3, by decide, (show ∀ i, i < 2 → _ from by decide), place_in (m := ((2 : Nat) : Int)) (by decide), out3 _ _⟩
theorem tkD {U1 U2 U3 : Addr} {v1 v2 v3 : Value} : TakeOk [(U1, .none, v1), (U2, .none, v2), (U3, .none, v3)] [Str.ofString "old", Str.ofString "new", Str.ofString "x"] [v1, v2, v3] := ⟨[none, none, none], _, Nat.le_of_ble_eq_true rfl, (.cons rfl (.cons rfl (.cons rfl .nil))), sh4, by decide, (show ∀ i, i < 3 → _ from by decide), place_in (m := ((3 : Nat) : Int)) (by decide), out4 _ _ _⟩
theorem tkE {U1 U2 U3 : Addr} {v1 v2 v3 : Value} {k3 : Nat} : TakeOk [(U1, .none, v1), (U2, .none, v2), (U3, .str (Str.ofString "x") k3, v3)] [Str.ofString "old", Str.ofString "new", Str.ofString "x"] [v1, v2, v3] := ⟨[none, none, some (Str.ofString "x")], _, Nat.le_of_ble_eq_true rfl, (.cons rfl (.cons rfl (.cons ⟨_, rfl⟩ .nil))), sh5, by decide, (show ∀ i, i < 3 → _ from by decide), place_in (m := ((3 : Nat) : Int)) (by decide), out5 _ _ _⟩
theorem tkF {U1 U2 U3 : Addr} {v1 v2 v3 : Value} {k1 k2 : Nat} : TakeOk [(U1, .str (Str.ofString "new") k1, v1), (U2, .str (Str.ofString "old") k2, v2), (U3, .none, v3)] [Str.ofString "old", Str.ofString "new", Str.ofString "x"] [v2, v1, v3] := ⟨[some (Str.ofString "new"), some (Str.ofString "old"), none], _, Nat.le_of_ble_eq_true rfl, (.cons ⟨_, rfl⟩ (.cons ⟨_, rfl⟩ (.cons rfl .nil))), sh6, by decide, (show ∀ i, i < 3 → _ from by decide), place_in (m := ((3 : Nat) : Int)) (by decide), out6 _ _ _⟩
theorem tkG {U1 U2 : Addr} {v1 v2 : Value} {k2 : Nat} : TakeOk [(U1, .none, v1), (U2, .str (Str.ofString "sep") k2, v2)] [Str.ofString "names", Str.ofString "sep"] [v1, v2] := ⟨[none, some (Str.ofString "sep")], _, Nat.le_of_ble_eq_true rfl, (.cons rfl (.cons ⟨_, rfl⟩ .nil)), sh7, by decide, (show ∀ i, i < 2 → _ from by decide), place_in (m := ((2 : Nat) : Int)) (by decide), out7 _ _⟩
theorem tkH {U1 : Addr} {v1 : Value} : TakeOk [(U1, .none, v1)] [Str.ofString "names", Str.ofString "sep"] [v1, .none] := ⟨[none], _, Nat.le_of_ble_eq_true rfl, (.cons rfl .nil), sh8, by decide, (show ∀ i, i < 1 → _ from by decide), place_in (m := ((1 : Nat) : Int)) (by decide), out8 _⟩

end

section
-- part VecM
section
local macro_rules | `(tactic| k_all) => `(tactic| with_reducible assumption)
set_option maxRecDepth 100000 in
set_option maxHeartbeats 1000000 in
theorem vec_ok (w : World) (kind : Str) (tk : Nat) (I : Addr) (pre : List (Addr × Obj)) :
  CallsOk w 237 [.str kind tk, .ref I] 10 300 pre (fun _ => True)
    (fun v post => ∃ x d t1 t2 t3 t4 t5, v = .ref x ∧ post = (x, instObj 237 d) :: (d, dictOf (vecEs w t1 t2 t3 t4 t5 kind tk (.ref I)) 5) :: pre ∧ (@LT.lt Nat _ d x) ∧ ∀ p ∈ pre, @LT.lt Nat _ p.1 d) := by
  unfold CallsOk
  have tg9 : Mine.Tg 14332 := tgI 14332
  k_fill
  intro p loose mean mg mb dp un gd cn cs a ccd cl outer A₀ base h₀ L m rest s Q E B F X N hoff T hk hd hu hy hret
  obtain ⟨all, hal⟩ : ∃ all, all = pre ++ rest := ⟨_, rfl⟩
  rw [← hal] at N
  refine' call_cls ?k1 ?k2 ?k3 ?k4 ?k5 ?k6 ?_; (case k1 => k_asm); (case k2 => k_asm); (case k3 => exact N); (case k4 => k_is); (case k5 => k_is); (case k6 => k_is); k_whole
  intro x d h2 F2 N2 l1 l2
  replace l2 : @LT.lt Nat _ d x := l2
  have la : ∀ p ∈ all, p.1 ≠ d := fun p hp => Nat.ne_of_lt (l1 p hp)
  have lc : ∀ p ∈ all, p.1 ≠ x := fun p hp => Nat.ne_of_lt (Nat.lt_trans (l1 p hp) l2)
  (refine' code_def ?k1 ?k2 ?k3 ?k4 ?k5 ?kA ?kF ?kK ?k6 ?k7 ?k8 ?k9 ?kB ?_ ?c2 ?c3 ?c4 ?c5; (case kA => exact rfl); (case kF => exact rfl); (case kK => assumption); (case k1 => k_asm); (case k2 => k_asm); (case k3 => k_asm); (case k4 => k_asm); (case k5 => k_asm); (case k6 => k_is); (case k7 => k_is); (case k8 => k_room); (case k9 => first | exact BindsTo.of_eq rfl | exact binds_K (by k_in) rfl (by k_is) rfl rfl rfl); (case c5 => decide); (case kB => exact locs rfl); (case c2 => exact rfl); (case c3 => exact rfl); (case c4 => exact rfl); k_whole; intro g' L' h' FG' F' N' B' X' T'; (try dsimp only); (try k_lift B'); (try k_fold))
  k_steps
  rename_i kF kN _ _
  subst hal
  refine hret _ ((x, instObj 237 d) :: (d, _) :: pre) _ _ kF kN ?off ⟨x, d, _, _, _, _, _, rfl, rfl, l2, fun p hp => l1 p (List.mem_append_left _ hp)⟩
  case off =>
    intro p hp q hq
    rcases List.mem_cons.mp hp with rfl | hp
    · exact (lc q (List.mem_append_right _ hq)).symm
    · rcases List.mem_cons.mp hp with rfl | hp
      · exact (la q (List.mem_append_right _ hq)).symm
      · exact hoff p hp q hq
end
/-- a vector made: all that stands in the ledger lies below it -/
theorem useV {w : World} {kind : Str} {tk : Nat} {I : Addr} {p : Program} {loose : List Str} {mean : ExcName → Option Value} {mg mb : Str → Option Value} {dp un : Nat} {gd : Option (List Code)} {cn : Str} {cs : Scope} {a : Addr} {ccd : Value} {cl : List (Str × Addr)} {outer : List Env} {A₀ : Around} {base h₀ : Heap} {L : Addr} {m : Str → Option Value} {all : List (Addr × Obj)} {hQ : Heap} {gQ : _} {dQ : _} {tQ : Nat} {oQ : _} {Q E : Value → Shared → Prop}
    (B : Below A₀ base outer h₀) (F : Fr h₀ L hQ m) (X : (Mine.hd.heap_39 w.params).In h₀) (N : News h₀ L hQ all) (T : Top p loose mean mg mb h₀) (hk : cs.kind = .function)
    (hd : dp + 10 < recursionLimit) (hu : un + 300 < cLine)
    (ret : ∀ (x' d' : Addr) (t1 t2 t3 t4 t5 : Nat) (h' : Heap) (tk' : Nat) (F' : Fr h₀ L h' m) (N' : News h₀ L h' ((x', instObj 237 d') :: (d', dictOf (vecEs w t1 t2 t3 t4 t5 kind tk (.ref I)) 5) :: all)) (l1 : ∀ p ∈ all, p.1 < d') (l2 : @LT.lt Nat _ d' x'), Q (.ref x') ⟨h', gQ, dQ, tk', oQ⟩) :
    wpAny (model PySem.Challenge.rw_pq1336_01.row.prog w) (ktrTop dp un gd cn cs L a ccd cl outer) (call (.ref 237) [.str kind tk, .ref I]) Q E ⟨hQ, gQ, dQ, tQ, oQ⟩ := by
  refine vec_ok w kind tk I all p loose mean mg mb dp un gd cn cs a ccd cl outer A₀ base h₀ L m [] ⟨hQ, gQ, dQ, tQ, oQ⟩ Q E B F X (by rw [List.append_nil]; exact N) (fun _ _ _ h => nomatch h) T hk hd hu trivial ?_
  rintro v post h' tk' F' N' _ ⟨x, d, t1, t2, t3, t4, t5, rfl, rfl, l2, l1⟩
  rw [List.append_nil] at N'
  exact ret x d t1 t2 t3 t4 t5 h' tk' F' N' l1 l2
/-- an answer: a Vector of that kind made anew, then what else is kept -/
noncomputable def VecR (w : World) (kind : Str) (K : List Value → List (Addr × Obj) → Prop) (v : Value) (post : List (Addr × Obj)) : Prop :=
  ∃ R dR Ir r1 r2 r3 r4 r5 rk rn ys tl, v = .ref R ∧ post = (R, instObj 237 dR) :: (dR, dictOf (vecEs w r1 r2 r3 r4 r5 kind rk (.ref Ir)) 5) :: (Ir, listOf ys.toArray rn) :: tl ∧ K ys tl
theorem VecR.intro {w : World} {kind : Str} {K : List Value → List (Addr × Obj) → Prop} {R dR Ir : Addr} {r1 r2 r3 r4 r5 rk rn : Nat} {ys : List Value} {tl : List (Addr × Obj)} (h : K ys tl) :
    VecR w kind K (.ref R) ((R, instObj 237 dR) :: (dR, dictOf (vecEs w r1 r2 r3 r4 r5 kind rk (.ref Ir)) 5) :: (Ir, listOf ys.toArray rn) :: tl) := ⟨_, _, _, _, _, _, _, _, _, _, _, _, rfl, rfl, h⟩
theorem VecR.mono {w : World} {kind : Str} {K K' : List Value → List (Addr × Obj) → Prop} (h : ∀ ys tl, K ys tl → K' ys tl) (v : Value) (post : List (Addr × Obj)) : VecR w kind K v post → VecR w kind K' v post := by
  rintro ⟨R, dR, Ir, r1, r2, r3, r4, r5, rk, rn, ys, tl, e1, e2, hk⟩
  exact ⟨R, dR, Ir, r1, r2, r3, r4, r5, rk, rn, ys, tl, e1, e2, h _ _ hk⟩
/-- an answer: a list made anew, above all that is kept -/
noncomputable def ListR (K : List Value → List (Addr × Obj) → Prop) (v : Value) (post : List (Addr × Obj)) : Prop :=
  ∃ J jn ys tl, v = .ref J ∧ post = (J, listOf ys.toArray jn) :: tl ∧ K ys tl ∧ ∀ q ∈ tl, @LT.lt Nat _ q.1 J

end

section
-- part BStr
theorem CallsOk.weak {w : World} {f : Addr} {vs : List Value} {dN uN : Nat} {pre : List (Addr × Obj)} {Hyp : Heap → Prop} {P P' : Value → List (Addr × Obj) → Prop} (H : CallsOk w f vs dN uN pre Hyp P) (h : ∀ v post, P v post → P' v post) : CallsOk w f vs dN uN pre Hyp P' := by
  intro p loose mean mg mb dp un gd cn cs a ccd cl outer A₀ base h₀ L m rest s Q E B F X N hoff T hk hd hu hy hret
  exact H p loose mean mg mb dp un gd cn cs a ccd cl outer A₀ base h₀ L m rest s Q E B F X N hoff T hk hd hu hy fun v post h' tk' F' N' O' p' => hret v post h' tk' F' N' O' (h v post p')
theorem CallsOk.sub {w : World} {f : Addr} {vs : List Value} {dN uN : Nat} {pre pre' : List (Addr × Obj)} {Hyp : Heap → Prop} {P : Value → List (Addr × Obj) → Prop} (H : CallsOk w f vs dN uN pre Hyp P) (h : ∀ q ∈ pre, q ∈ pre') : CallsOk w f vs dN uN pre' Hyp P := by
  intro p loose mean mg mb dp un gd cn cs a ccd cl outer A₀ base h₀ L m rest s Q E B F X N hoff T hk hd hu hy hret
  refine H p loose mean mg mb dp un gd cn cs a ccd cl outer A₀ base h₀ L m rest s Q E B F X (news_sub N fun q hq => (List.mem_append.mp hq).elim (fun m => List.mem_append_left _ (h q m)) fun m => List.mem_append_right _ m) (fun a ha b hb => hoff a (h a ha) b hb) T hk hd hu hy hret
theorem off_app {l r r' : List (Addr × Obj)} (h : Off l r) (h' : Off l r') : Off l (r ++ r') := fun p hp q hq => (List.mem_append.mp hq).elim (h p hp q) (h' p hp q)
theorem off_cons {a : Addr × Obj} {l r : List (Addr × Obj)} (h : ∀ q ∈ r, @Ne Nat a.1 q.1) (h' : Off l r) : Off (a :: l) r := fun p hp q hq => (List.mem_cons.mp hp).elim (fun e => e ▸ h q hq) fun m => h' p m q hq
theorem off_consR {a : Addr × Obj} {l r : List (Addr × Obj)} (h : ∀ q ∈ l, @Ne Nat q.1 a.1) (h' : Off l r) : Off l (a :: r) := fun p hp q hq => (List.mem_cons.mp hq).elim (fun e => e ▸ h p hp) fun m => h' p hp q m
theorem base_in {b : Int} (hb : b = 0 ∨ (2 ≤ b ∧ b ≤ 36)) : 0 ≤ b ∧ b ≤ 36 := by (exact om203 (by k_asm))
set_option maxRecDepth 100000 in
set_option maxHeartbeats 1000000 in
theorem wholeNone_ok (w : World) (ta tc : Nat) : CallsOk w 593 [.none, .str (Str.ofString "base") ta, .int 10 tc] 20 1200 [] (fun _ => True) (fun v _ => ∃ t, v = .int 10 t) := by
  unfold CallsOk
  have tg9 : Mine.Tg 63068 := tgI 63068
  k_fill
  intro p loose mean mg mb dp un gd cn cs a ccd cl outer A₀ base h₀ L m rest s Q E B F X N hoff T hk hd hu hy hret
  refine wpAny_call ?_
  k_dflt (refine' code_defW ?y0k1 ?y0k2 ?y0k3 ?y0k4 ?y0kO ?y0k5 ?y0kA ?y0kF ?y0kK ?y0k6 ?y0k7 ?y0k8 ?y0k9 ?y0kB ?y0kR ?_ ?y0c2 ?y0c3 ?y0c4 ?y0c5; (case y0kA => exact rfl); (case y0kF => exact rfl); (case y0kK => assumption); (case y0k1 => k_asm); (case y0k2 => k_asm); (case y0k3 => k_asm); (case y0k4 => k_asm); (case y0kO => assumption); (case y0k5 => k_asm); (case y0k6 => k_is); (case y0k7 => k_is); (case y0k8 => ktr_room); (case y0k9 => first | exact BindsTo.of_eq rfl | exact binds_K (by k_in) rfl (by k_is) rfl rfl rfl); (case y0c5 => decide); (case y0kB => exact locs rfl); (case y0kR => assumption); (case y0c2 => exact rfl); (case y0c3 => exact rfl); (case y0c4 => exact rfl); k_whole; intro g1 L1 h1 FG1 F1 N1 B1 X1 T1 G1; (try k_lift B1); (first | ((refine name_env2 ?_); intro tkE aA eE qk xE) | ((try dsimp only); (try k_fold); (try ((refine name_env ?_); intro aA eE xE)))))
  k_steps
  exact Out.intro (by assumption) (by assumption) [] (by kqd_sub) ⟨_, rfl⟩
set_option maxRecDepth 100000 in
set_option maxHeartbeats 4000000 in
theorem bstrG (w : World) (A Vx dX Ix : Addr) (us : List Arg3) (n x1 x2 x3 x4 x5 xk xn : Nat) (bv : Value) (preB : List (Addr × Obj)) (b : Int) (vs : List Value) (os : List (Option Str)) (hv : OSAre vs os) (hl : os.length ≤ 6)
    (hx : ∀ x, some x ∈ os → x.length ≤ 40 ∧ ∀ c ∈ x.cps.toList, c < 128) (hb : b = 0 ∨ (2 ≤ b ∧ b ≤ 36)) (hT : TakeOk us [Str.ofString "x", Str.ofString "base"] [.ref Vx, bv])
    (hW : ∀ ta tc, CallsOk w 593 [bv, .str (Str.ofString "base") ta, .int 10 tc] 20 1200 preB (fun _ => True) (fun v _ => ∃ t, v = .int b t))
    (hO1 : Off ((A, listOf (argRefs us).toArray n) :: argLed us) (vecL w Vx dX Ix x1 x2 x3 x4 x5 xk xn (Str.ofString "character") vs ++ preB)) (hO2 : Off preB (vecL w Vx dX Ix x1 x2 x3 x4 x5 xk xn (Str.ofString "character") vs)) :
  CallsOk w 655 [.none, .ref A, .none] 60 4000 ([(A, listOf (argRefs us).toArray n), (Vx, instObj 237 dX), (dX, dictOf (vecEs w x1 x2 x3 x4 x5 (Str.ofString "character") xk (.ref Ix)) 5), (Ix, listOf vs.toArray xn)] ++ (preB ++ argLed us)) (fun _ => True)
    (VecR w (Str.ofString "integer") fun ys tl => tl = [(Ix, listOf vs.toArray xn)] ∧ OIAre ys (os.map fun o => o.bind fun x => strtoiF x b)) := by
  unfold CallsOk
  have tg9 : Mine.Tg 24614 := tgI 24614
  k_fill
  intro p loose mean mg mb dp un gd cn cs a ccd cl outer A₀ base h₀ L m rest s Q E B F X N hoff T hk hd hu hy hret
  refine wpAny_call ?_
  k_dflt (refine' code_defWC ?y1k1 ?y1k2 ?y1k3 ?y1k4 ?y1kO ?y1k5 ?y1kA ?y1kF ?y1kK ?y1k6 ?y1k7 ?y1k8 ?y1k9 ?y1kB ?y1kD ?y1kR ?_ ?y1c2 ?y1c3 ?y1c4; (case y1kA => exact rfl); (case y1kF => exact rfl); (case y1kK => assumption); (case y1k1 => k_asm); (case y1k2 => k_asm); (case y1k3 => k_asm); (case y1k4 => k_asm); (case y1kO => assumption); (case y1k5 => k_asm); (case y1k6 => k_is); (case y1k7 => k_is); (case y1k8 => ktr_room); (case y1k9 => first | exact BindsTo.of_eq rfl | exact binds_K (by k_in) rfl (by k_is) rfl rfl rfl); (case y1kB => exact rfl); (case y1kD => decide +kernel); (case y1kR => assumption); (case y1c2 => exact rfl); (case y1c3 => exact rfl); (case y1c4 => exact rfl); k_whole; intro g1 L1 h1 tk1 cells1 FG1 F1 N1 Y1 B1 X1 T1 l1 G1; (try k_lt l1); k_cells Y1; (try dsimp only [List.cons_append, List.nil_append] at N1); (try k_lift B1); (first | ((refine name_env2 ?_); intro tkE aA eE qk xE) | ((try dsimp only); (try k_fold); (try ((refine name_env ?_); intro aA eE xE)))))
  k_with "call ref" => guard_hyp tg9 : Mine.Tg 24614; ((with_reducible show wpAny _ _ (call (Value.ref 464) _) _ _ _); refine Halt.out ?_)
  k_steps
  rename_i oC dC _ _ _ Fo _ _ _ l8
  unfold Halt
  have inA : ∀ q ∈ (A, listOf (argRefs us).toArray n) :: argLed us, q ∈ [(A, listOf (argRefs us).toArray n), (Vx, instObj 237 dX), (dX, dictOf (vecEs w x1 x2 x3 x4 x5 (Str.ofString "character") xk (.ref Ix)) 5), (Ix, listOf vs.toArray xn)] ++ (preB ++ argLed us) := fun q hq => (List.mem_cons.mp hq).elim (fun e => e ▸ .head _) fun m => .tail _ (.tail _ (.tail _ (.tail _ (show q ∈ preB ++ argLed us from List.mem_append_right _ m))))
  have inV : ∀ q ∈ vecL w Vx dX Ix x1 x2 x3 x4 x5 xk xn (Str.ofString "character") vs ++ preB, q ∈ [(A, listOf (argRefs us).toArray n), (Vx, instObj 237 dX), (dX, dictOf (vecEs w x1 x2 x3 x4 x5 (Str.ofString "character") xk (.ref Ix)) 5), (Ix, listOf vs.toArray xn)] ++ (preB ++ argLed us) := fun q hq => .tail _ ((List.mem_append.mp hq).elim (fun m => List.mem_append_left _ m) fun m => List.mem_append_right _ (List.mem_append_left _ m))
  have hof : Off ((Fo, listOf #[.str (Str.ofString "x") tkE, .str (Str.ofString "base") (tkE + 1)] 0) :: (A, listOf (argRefs us).toArray n) :: argLed us) ((L1 + 1, oC) :: (vecL w Vx dX Ix x1 x2 x3 x4 x5 xk xn (Str.ofString "character") vs ++ preB)) := off_cons (List.forall_mem_cons.mpr ⟨gt_ne (lt_in l8 (by k_mem)), fun q hq => Nat.ne_of_gt (l8 q (.tail _ (inV q hq)))⟩) (off_consR (fun q hq => lt_ne (lt_up (l1 q (inA q hq)))) hO1)
  (((k_dflt (refine (useM hof (takeOk (fvs := [_, _]) hT (osa2 (t := tkE) (u := tkE + 1)) (by decide) (by decide +kernel) (fun q hq => Nat.ne_of_gt (l8 q (.tail _ (inA q hq)))))) (by k_asm) (by k_asm) (by k_asm) (by k_asm) (by k_asm) (by first | exact rfl | assumption) (by ktr_room) (by ktr_units) (by first | exact True.intro | assumption) (by first | exact fun _ h => h | kqd_sub) ?_)); intro v9 p9 h9 tk9 F9 N9 O9 P9))
  (first | (refine hideW ?_; intro gG9; obtain ⟨V8, c8, zq1, zq2⟩ := P9; refine (?_ : wpAny _ _ _ _ _ _); clear gG9; (first | subst zq1 | cases zq1); (first | subst zq2 | cases zq2)) | obtain ⟨V8, c8, rfl, rfl⟩ := P9)
  replace N9 := news_sub (l := (V8, listOf #[.ref Vx, bv] c8) :: (L1 + 1, oC) :: (vecL w Vx dX Ix x1 x2 x3 x4 x5 xk xn (Str.ofString "character") vs ++ preB)) N9 (List.forall_mem_cons.mpr ⟨.head _, fun q hq => List.mem_append_right _ hq⟩)
  dsimp only [vecL, List.cons_append, List.nil_append] at N9
  k_with "call ref" => guard_hyp tg9 : Mine.Tg 24614; ((with_reducible show wpAny _ _ (call (Value.ref 593) _) _ _ _); refine Halt.out ?_)
  k_steps
  unfold Halt
  have hof2 : Off preB ((L1 + 1, oC) :: vecL w Vx dX Ix x1 x2 x3 x4 x5 xk xn (Str.ofString "character") vs) := off_consR (fun q hq => lt_ne (lt_up (l1 q (inV q (List.mem_append_right _ hq))))) hO2
  (((k_dflt (refine (useM hof2 (hW _ _)) (by k_asm) (by k_asm) (by k_asm) (by k_asm) (by k_asm) (by first | exact rfl | assumption) (by ktr_room) (by ktr_units) (by first | exact True.intro | assumption) (by first | exact fun _ h => h | kqd_sub) ?_)); intro v9 p9 h9 tk9 F9 N9 O9 P9))
  obtain ⟨t8, rfl⟩ := P9
  replace N9 := news_sub (l := (L1 + 1, oC) :: vecL w Vx dX Ix x1 x2 x3 x4 x5 xk xn (Str.ofString "character") vs) N9 (fun q hq => List.mem_append_right _ hq)
  dsimp only [vecL, List.cons_append, List.nil_append] at N9
  k_with "exec If BoolOp cons nil" => guard_hyp tg9 : Mine.Tg 24614; ((fail_if_success (with_reducible show wpAny _ _ _ (Still _ _ _ _ _) _ _)); refine Halt.out ?_)
  k_steps
  unfold Halt
  k_dflt (refine' cut_if ?kF ?kN ?h1 ?h2; (case kF => k_asm); (case kN => k_asm))
  · clear hW hO1 hO2 hof hof2 l1 l8
    k_steps
    all_goals exact Still.intro (by assumption) (by assumption)
  intro h7 tk7 F7 N7
  k_with "eval ListComp Call cons" => guard_hyp tg9 : Mine.Tg 24614; refine Halt.out ?_
  k_steps
  rename_i oN _ _ dN _
  unfold Halt
  ((k_dflt (refine LCg.ListComp_U (F₀ := by k_asm) (by with_unfolding_all rfl) (by decide) (by rfl) (by decide) (by rfl) ?_)))
  k_with "call ref" => guard_hyp tg9 : Mine.Tg 24614; ((with_reducible show wpAny _ _ (call (Value.ref 638) _) _ _ _); refine Halt.out ?_)
  k_steps
  unfold Halt
  have hof3 : Off (vecL w Vx dX Ix x1 x2 x3 x4 x5 xk xn (Str.ofString "character") vs) [(L1 + 1, oN)] := off_consR (fun q hq => lt_ne (lt_up (l1 q (inV q (List.mem_append_left _ hq))))) (fun _ _ _ h => nomatch h)
  have hvl : vs.length ≤ 6 := by rw [hv.1]; exact hl
  (((k_dflt (refine (useM hof3 (texts_ok w Vx dX Ix x1 x2 x3 x4 x5 xk xn vs (Nat.le_trans hvl (by decide)))) (by k_asm) (by k_asm) (by k_asm) (by k_asm) (by k_asm) (by first | exact rfl | assumption) (by ktr_room) (by ktr_units) (by first | exact True.intro | assumption) (by first | exact fun _ h => h | kqd_sub) ?_)); intro v9 p9 h9 tk9 F9 N9 O9 P9))
  (first | (refine hideW ?_; intro gG9; obtain ⟨D8, c8, zq1, zq2⟩ := P9; refine (?_ : wpAny _ _ _ _ _ _); clear gG9; (first | subst zq1 | cases zq1); (first | subst zq2 | cases zq2)) | obtain ⟨D8, c8, rfl, rfl⟩ := P9)
  dsimp only [vecL, List.cons_append, List.nil_append] at N9
  refine LCg.CompSrc.ledger (by rfl) (by k_asm) (by k_asm) (by k_mem) (by rw [sizeLine_eq, List.size_toArray]; (exact Nat.le_trans (by with_reducible assumption) (Nat.le_of_ble_eq_true rfl))) ?_
  intro g2
  refine comp_inv (σ := Unit) (fun _ => [(D8, listOf vs.toArray c8), (Vx, instObj 237 dX), (dX, dictOf (vecEs w x1 x2 x3 x4 x5 (Str.ofString "character") xk (.ref Ix)) 5), (Ix, listOf vs.toArray xn), (L1 + 1, oN)]) (fun i ys _ => OIAre ys ((os.map fun o => o.bind fun x => strtoiF x b).take i)) () OIAre.nil ?turn3 ?fin3
  case turn3 =>
    intro _ i v ys I oI C oC2 D m₂ h11 tk11 E' hi hv' hP hC hx2 F10 N10 off10 ne10
    have hv2 : vs[i]? = some v := by simpa using hv'
    (first | (refine hideW ?_; intro gG9; obtain ⟨o, hoi, hov⟩ := hv.2 i v hv2; refine (?_ : wpAny _ _ _ _ _ _); clear gG9) | obtain ⟨o, hoi, hov⟩ := hv.2 i v hv2)
    have hmo : o ∈ os := List.mem_of_getElem? hoi
    k_with "call ref" => guard_hyp tg9 : Mine.Tg 24614; ((with_reducible show wpAny _ _ (call (Value.ref 607) _) _ _ _); (((k_dflt (refine use0 (strtoi_any w o v b _ hov (fun x hx' => hx x (hx' ▸ hmo)) (base_in hb)) (by k_asm) (by k_asm) (by k_asm) (by k_asm) (by k_asm) (by first | exact rfl | assumption) (by ktr_room) (by ktr_units) (by first | exact True.intro | assumption) ?_)); intro v9 p9 h9 tk9 F9 N9 O9 P9)); obtain ⟨ev, e9⟩ := P9; subst e9; (try dsimp only [List.nil_append] at N9))
    k_with "CompEnd" => guard_hyp tg9 : Mine.Tg 24614; refine Halt.out ?_
    k_steps
    unfold Halt
    refine LCg.CompEnd.intro (by assumption) N9 _ (fun _ h => h) off10 (Or.inr ⟨_, .head _, rfl, _, rfl⟩) ⟨(), rfl, ?_⟩
    have : (os.map fun o => o.bind fun x => strtoiF x b)[i]? = some (o.bind fun x => strtoiF x b) := by simp [hoi]
    rw [List.take_add_one, this]
    exact hP.snoc ev
  case fin3 =>
    intro ys _ hP
    rw [List.take_of_length_le (by rw [List.length_map, List.size_toArray, hv.1]; exact Nat.le_refl _)] at hP
    have hyl : ys.length ≤ 6 := by rw [hP.1, List.length_map]; exact hl
    unfold LCg.FinE
    intro D3 h3 tk3 F10 N10 o10
    k_with "call type:list cons nil" => guard_hyp tg9 : Mine.Tg 24614; (k_dflt (refine' kup_listOf (zs := ys) (its2 := ys.toArray) ?F ?N ?b (List.toList_toArray) ?_ ?z; (case F => k_asm); (case N => k_asm); (case b => k_mem); (case z => rw [sizeLine_eq, List.toList_toArray]; (exact Nat.le_trans (by with_reducible assumption) (Nat.le_of_ble_eq_true rfl)))); intro D5 c5 h5 F5 N5 l5; (try k_lt l5))
    k_with "call ref" => guard_hyp tg9 : Mine.Tg 24614; ((((with_reducible show wpAny _ _ (call (Value.ref 237) _) _ _ _); (k_dflt (refine useV (by k_asm) (by k_asm) (by k_asm) (by k_asm) (by k_asm) (by first | exact rfl | assumption) (by ktr_room) (by ktr_units) ?_)); intro _ _ _ _ _ _ _ _ _ _ _ _ _)))
    k_steps
    exact Out.intro (by assumption) (by assumption) [(_, instObj 237 _), (_, dictOf (vecEs w _ _ _ _ _ (Str.ofString "integer") _ (.ref D5)) 5), (D5, listOf ys.toArray c5), (Ix, listOf vs.toArray xn)] (by kqd_sub) (VecR.intro ⟨rfl, hP⟩)
theorem bstr2 (w : World) (A U1 U2 Vx dX Ix Vb dB Ib : Addr) (k1 k2 n x1 x2 x3 x4 x5 xk xn b1 b2 b3 b4 b5 bk bn tb : Nat) (b : Int) (vs : List Value) (os : List (Option Str)) (hv : OSAre vs os) (hl : os.length ≤ 6)
    (hx : ∀ x, some x ∈ os → x.length ≤ 40 ∧ ∀ c ∈ x.cps.toList, c < 128) (hb : b = 0 ∨ (2 ≤ b ∧ b ≤ 36)) (ho : Chain [Ix, dX, Vx, U1, Ib, dB, Vb, U2, A]) :
  CallsOk w 655 [.none, .ref A, .none] 60 4000 ([(A, listOf #[.ref U1, .ref U2] n), (U2, tup [.str (Str.ofString "base") k2, .ref Vb]), (U1, tup [.str (Str.ofString "x") k1, .ref Vx]), (Vx, instObj 237 dX), (dX, dictOf (vecEs w x1 x2 x3 x4 x5 (Str.ofString "character") xk (.ref Ix)) 5), (Ix, listOf vs.toArray xn), (Vb, instObj 237 dB), (dB, dictOf (vecEs w b1 b2 b3 b4 b5 (Str.ofString "integer") bk (.ref Ib)) 5), (Ib, listOf #[.int b tb] bn)]) (fun _ => True)
    (VecR w (Str.ofString "integer") fun ys tl => tl = [(Ix, listOf vs.toArray xn)] ∧ OIAre ys (os.map fun o => o.bind fun x => strtoiF x b)) := by
  have hS : Desc [A, U2, Vb, dB, Ib, U1, Vx, dX, Ix] := desc_of ho
  exact (bstrG w A Vx dX Ix [(U1, .str (Str.ofString "x") k1, .ref Vx), (U2, .str (Str.ofString "base") k2, .ref Vb)] n x1 x2 x3 x4 x5 xk xn (.ref Vb) (vecL w Vb dB Ib b1 b2 b3 b4 b5 bk bn (Str.ofString "integer") [.int b tb]) b vs os hv hl hx hb tkA (fun ta tc => (wholeInt_ok w Vb dB Ib b1 b2 b3 b4 b5 bk bn b tb ta tc (base_in hb).1).weak fun _ _ h => h.1) (by show Off [(A, _), (U1, _), (U2, _)] (_ :: _ :: _ :: _ :: _ :: _ :: []); k_extra "off") (by dsimp only [vecL]; k_extra "off")).sub (by kqd_sub)
theorem bstr1 (w : World) (A U1 Vx dX Ix : Addr) (n x1 x2 x3 x4 x5 xk xn : Nat) (vs : List Value) (os : List (Option Str)) (hv : OSAre vs os) (hl : os.length ≤ 6)
    (hx : ∀ x, some x ∈ os → x.length ≤ 40 ∧ ∀ c ∈ x.cps.toList, c < 128) (ho : Chain [Ix, dX, Vx, U1, A]) :
  CallsOk w 655 [.none, .ref A, .none] 60 4000 ([(A, listOf #[.ref U1] n), (U1, tup [.none, .ref Vx]), (Vx, instObj 237 dX), (dX, dictOf (vecEs w x1 x2 x3 x4 x5 (Str.ofString "character") xk (.ref Ix)) 5), (Ix, listOf vs.toArray xn)]) (fun _ => True)
    (VecR w (Str.ofString "integer") fun ys tl => tl = [(Ix, listOf vs.toArray xn)] ∧ OIAre ys (os.map fun o => o.bind fun x => strtoiF x 10)) := by
  have hS : Desc [A, U1, Vx, dX, Ix] := desc_of ho
  exact (bstrG w A Vx dX Ix [(U1, .none, .ref Vx)] n x1 x2 x3 x4 x5 xk xn .none [] 10 vs os hv hl hx (.inr (by decide)) tkB (fun ta tc => wholeNone_ok w ta tc) (by show Off [(A, _), (U1, _)] (_ :: _ :: _ :: []); k_extra "off") (by dsimp only [vecL]; k_extra "off")).sub (by kqd_sub)
theorem bstrD (w : World) (A U1 U2 Vx dX Ix Vb dB Ib Tp : Addr) (k1 n x1 x2 x3 x4 x5 xk xn b1 b2 b3 b4 b5 bk bn tb tb1 : Nat) (b : Int) (vs : List Value) (os : List (Option Str)) (hv : OSAre vs os) (hl : os.length ≤ 6)
    (hx : ∀ x, some x ∈ os → x.length ≤ 40 ∧ ∀ c ∈ x.cps.toList, c < 128) (hb : b = 0 ∨ (2 ≤ b ∧ b ≤ 36)) (ho : Chain [Ix, dX, Vx, Tp, Ib, dB, Vb, U1, U2, A]) :
  CallsOk w 655 [.none, .ref A, .none] 60 4000 ([(A, listOf #[.ref U1, .ref U2] n), (U2, tup [.none, .ref Vx]), (U1, tup [.str (Str.ofString "b") k1, .ref Vb]), (Vx, instObj 237 dX), (dX, dictOf (vecEs w x1 x2 x3 x4 x5 (Str.ofString "character") xk (.ref Ix)) 5), (Ix, listOf vs.toArray xn), (Vb, instObj 237 dB), (dB, dictOf (vecEs w b1 b2 b3 b4 b5 (Str.ofString "double") bk (.ref Ib)) 5), (Ib, listOf #[.ref Tp] bn), (Tp, tup [.int b tb, .int 1 tb1])]) (fun _ => True)
    (VecR w (Str.ofString "integer") fun ys tl => tl = [(Ix, listOf vs.toArray xn)] ∧ OIAre ys (os.map fun o => o.bind fun x => strtoiF x b)) := by
  have hS : Desc [A, U2, U1, Vb, dB, Ib, Tp, Vx, dX, Ix] := desc_of ho
  exact (bstrG w A Vx dX Ix [(U1, .str (Str.ofString "b") k1, .ref Vb), (U2, .none, .ref Vx)] n x1 x2 x3 x4 x5 xk xn (.ref Vb) [(Vb, instObj 237 dB), (dB, dictOf (vecEs w b1 b2 b3 b4 b5 (Str.ofString "double") bk (.ref Ib)) 5), (Ib, listOf #[.ref Tp] bn), (Tp, tup [.int b tb, .int 1 tb1])] b vs os hv hl hx hb tkC (fun ta tc => (wholeDbl_ok w Vb dB Ib Tp b1 b2 b3 b4 b5 bk bn b tb tb1 ta tc (base_in hb).1).weak fun _ _ h => h.1) (by show Off [(A, _), (U1, _), (U2, _)] (_ :: _ :: _ :: _ :: _ :: _ :: _ :: []); k_extra "off") (by dsimp only [vecL]; k_extra "off")).sub (by kqd_sub)

end

section
-- part BChr
theorem codeHd_g {H g h₀ : Heap} {L : Addr} {news : List (Addr × Obj)} {adr : List Addr} {o : Obj} (C : CodeHd H 661 657) (G : GSub H g adr) (N : News h₀ L H news) (ha : ∀ a ∈ adr, a ∈ news.map (·.1)) (h6 : h₀.get? 661 = some o) : CodeHd g 661 657 := by
  have hn : (661 : Addr) ∉ adr := fun hm => by
    (first | (refine hideW ?_; intro gG9; obtain ⟨q, hq, e⟩ := List.mem_map.mp (ha _ hm); refine (?_ : wpAny _ _ _ _ _ _); clear gG9) | obtain ⟨q, hq, e⟩ := List.mem_map.mp (ha _ hm))
    have := (N q hq).2.2
    rw [show q.1 = 661 from e, h6] at this
    cases this
  (first | (refine hideW ?_; intro gG9; obtain ⟨o, vs, file, tf, flags, tg, inF, text, tt, e1, r⟩ := C; refine (?_ : wpAny _ _ _ _ _ _); clear gG9) | obtain ⟨o, vs, file, tf, flags, tg, inF, text, tt, e1, r⟩ := C)
  exact ⟨o, vs, file, tf, flags, tg, inF, text, tt, G _ _ e1 hn, r⟩
/-- the code table of b_chartr when its lambda has been made -/
noncomputable abbrev lamTab (c : Addr) : Obj := tabObj (#[] ++ #[rawInt ((673 : Nat) : Int), rawInt ((46 : Nat) : Int), .ref c])
noncomputable def LamCode (oc : Obj) (vs : Array Value) (t : Tok) : Prop := oc.data = .fields vs ∧ vs[1]? = some (.str ((Str.ofString "b_chartr" ++ Str.ofString ".<locals>.") ++ Str.ofString "<lambda>") t)
theorem CallsOk.thin {w : World} {f : Addr} {vs : List Value} {dN uN : Nat} {pre : List (Addr × Obj)} {Hyp : Heap → Prop} {P P' : Value → List (Addr × Obj) → Prop} (H : CallsOk w f vs dN uN pre Hyp P) (h : ∀ v post, P v post → ∃ post', (∀ q ∈ post', q ∈ post) ∧ P' v post') : CallsOk w f vs dN uN pre Hyp P' := by
  intro p loose mean mg mb dp un gd cn cs a ccd cl outer A₀ base h₀ L m rest s Q E B F X N hoff T hk hd hu hy hret
  refine H p loose mean mg mb dp un gd cn cs a ccd cl outer A₀ base h₀ L m rest s Q E B F X N hoff T hk hd hu hy fun v post h' tk' F' N' O' p' => ?_
  (first | (refine hideW ?_; intro gG9; obtain ⟨post', hs, hp⟩ := h v post p'; refine (?_ : wpAny _ _ _ _ _ _); clear gG9) | obtain ⟨post', hs, hp⟩ := h v post p')
  exact hret v post' h' tk' F' (news_sub N' fun q hq => (List.mem_append.mp hq).elim (fun m => List.mem_append_left _ (hs q m)) fun m => List.mem_append_right _ m) (fun a ha b hb => O' a (hs a ha) b hb) hp
/-- the code table of b_chartr: empty, or the lambda's code in it -/
noncomputable def TabOk (tb : Obj) (X : List (Addr × Obj)) : Prop := (tb = tabObj #[] ∧ X = []) ∨ ∃ cL oL vL tL, tb = lamTab cL ∧ X = [(cL, oL)] ∧ LamCode oL vL tL
theorem kla_two {M : Model} {A : Around} {E : Value → Shared → Prop} {s : Shared} {h₀ : Heap} {L a c : Addr} {m mg mb : Str → Option Value} {cn : Str} {cs : Scope} {ccd : Value} {cl : List (Str × Addr)}
    {led X : List (Addr × Obj)} {tb : Obj} {p : Program} {loose : List Str} {mean : ExcName → Option Value} {name : Str} {params : Arguments} {body : PySem.Expr} {scope : Scope} {pos : Pos} {firstLine : Nat} {clos : List (Str × Addr)} {Q : Value → Shared → Prop}
    (F : Fr h₀ L s.heap m) (N : News h₀ L s.heap ((657, tb) :: (X ++ led))) (T : Top p loose mean mg mb h₀) (C : CodeHd h₀ c 657) (hcd : ccd = .ref c) (hled : ∀ q ∈ led, q.1 ≠ 657) (hTab : TabOk tb X) (h1 : pos.line = 673) (h2 : pos.col = 46)
    (hcl : closureFor scope (envX cn cs L a ccd cl) = pure clos)
    (h : ∀ f c' oc vs t ctv h' tk, Fr h₀ L h' m → News h₀ L h' ((f, kla_obj name ((Str.ofString "b_chartr" ++ Str.ofString ".<locals>.") ++ Str.ofString "<lambda>") params body scope clos ((mg (Str.ofString "__name__")).getD .none) c' ctv) :: (c', oc) :: (657, lamTab c') :: led) → LamCode oc vs t →
      (∀ q ∈ (c', oc) :: (657, lamTab c') :: led, q.1 < f) → (X = [] ∧ (∀ q ∈ (657, tb) :: led, q.1 < c') ∨ X = [(c', oc)]) → Q (.ref f) { s with heap := h', toks := tk }) :
    wpAny M A (makeFunction name ((Str.ofString "b_chartr" ++ Str.ofString ".<locals>.") ++ Str.ofString "<lambda>") params (.expr body) scope (envX cn cs L a ccd cl) [] [] [] pos firstLine) Q E s := by
  rcases hTab with ⟨rfl, rfl⟩ | ⟨cL, oL, vL, tL, rfl, rfl, hL⟩
  · refine kla_nest F N T C hcd (UpdF.head hled) True.intro rfl hcl fun f c' oc vs t ctv h' tk F' N' d1 d2 l1 l2 => h f c' oc vs t ctv h' tk F' ?_ ⟨d1, d2⟩ (List.forall_mem_cons.mpr ⟨l2, List.forall_mem_cons.mpr ⟨Nat.lt_trans (l1 (657, tabObj #[]) (.head _)) l2, fun q hq => Nat.lt_trans (l1 q (.tail _ hq)) l2⟩⟩) (.inl ⟨rfl, l1⟩)
    rw [h1, h2] at N'
    exact N'
  · refine kla_hit (c' := cL) F N T C hcd (.head _) (by simp [TriplesOk, rawInt]) (by simp [codeAmong, rawInt, h1, h2]) hcl fun f ctv h' tk F' N' l1 => h f cL oL vL tL ctv h' tk F' (news_sub N' ?_) hL ?_ (.inr rfl)
    · exact List.forall_mem_cons.mpr ⟨.head _, List.forall_mem_cons.mpr ⟨.tail _ (.tail _ (.head _)), List.forall_mem_cons.mpr ⟨.tail _ (.head _), fun q hq => .tail _ (.tail _ (.tail _ hq))⟩⟩⟩
    · exact List.forall_mem_cons.mpr ⟨l1 _ (.tail _ (.head _)), List.forall_mem_cons.mpr ⟨l1 _ (.head _), fun q hq => l1 _ (.tail _ (.tail _ hq))⟩⟩
set_option maxRecDepth 100000 in
set_option maxHeartbeats 4000000 in
theorem bchrG (w : World) (A Vo dO Io Vn dN Jn Vx dX Ix : Addr) (us : List Arg3) (n o1 o2 o3 o4 o5 ok on n1 n2 n3 n4 n5 nk nn x1 x2 x3 x4 x5 xk xn t1 t2 : Nat) (x y : Str) (b h : List Nat) (vs : List Value) (os : List (Option Str)) (tb : Obj) (X : List (Addr × Obj))
    (hb : spreadF x.cps.toList = some b) (hh : spreadF y.cps.toList = some h) (hbl : b.length ≤ h.length) (hhl : h.length ≤ 200)
    (hxl : x.length ≤ 20) (hyl : y.length ≤ 20) (hxa : ∀ c ∈ x.cps.toList, c < 128) (hya : ∀ c ∈ y.cps.toList, c < 128)
    (hv : OSAre vs os) (hl : os.length ≤ 6) (hx : ∀ x, some x ∈ os → x.length ≤ 100) (hT : TakeOk us [Str.ofString "old", Str.ofString "new", Str.ofString "x"] [.ref Vo, .ref Vn, .ref Vx]) (hTab : TabOk tb X)
    (hO : Off ((A, listOf (argRefs us).toArray n) :: argLed us) ([(Vo, instObj 237 dO), (dO, dictOf (vecEs w o1 o2 o3 o4 o5 (Str.ofString "character") ok (.ref Io)) 5), (Io, listOf #[.str x t1] on), (Vn, instObj 237 dN), (dN, dictOf (vecEs w n1 n2 n3 n4 n5 (Str.ofString "character") nk (.ref Jn)) 5), (Jn, listOf #[.str y t2] nn), (Vx, instObj 237 dX), (dX, dictOf (vecEs w x1 x2 x3 x4 x5 (Str.ofString "character") xk (.ref Ix)) 5), (Ix, listOf vs.toArray xn), (657, tb)] ++ X)) (hD : Dist [Vo, dO, Io, Vn, dN, Jn, Vx, dX, Ix, 657]) (hX : ∀ q ∈ X, ∀ p ∈ [Vo, dO, Io, Vn, dN, Jn, Vx, dX, Ix, 657], @Ne Nat p q.1) :
  CallsOk w 662 [.none, .ref A, .none] 60 4000 ((A, listOf (argRefs us).toArray n) :: ([(Vo, instObj 237 dO), (dO, dictOf (vecEs w o1 o2 o3 o4 o5 (Str.ofString "character") ok (.ref Io)) 5), (Io, listOf #[.str x t1] on), (Vn, instObj 237 dN), (dN, dictOf (vecEs w n1 n2 n3 n4 n5 (Str.ofString "character") nk (.ref Jn)) 5), (Jn, listOf #[.str y t2] nn), (Vx, instObj 237 dX), (dX, dictOf (vecEs w x1 x2 x3 x4 x5 (Str.ofString "character") xk (.ref Ix)) 5), (Ix, listOf vs.toArray xn), (657, tb)] ++ (X ++ argLed us))) (fun h => CodeHd h 661 657)
    (VecR w (Str.ofString "character") fun ys tl => ∃ c' oc' vs' t', tl = [(Ix, listOf vs.toArray xn), (657, lamTab c'), (c', oc'), (Vx, instObj 237 dX), (dX, dictOf (vecEs w x1 x2 x3 x4 x5 (Str.ofString "character") xk (.ref Ix)) 5)] ∧ OSAre ys (os.map fun o => o.map (mapT (chF (b.zip h)))) ∧ LamCode oc' vs' t' ∧ (X = [] ∧ (@LT.lt Nat _ 657 c') ∧ (@LT.lt Nat _ Ix c') ∨ X = [(c', oc')])) := by
  unfold CallsOk
  have tg9 : Mine.Tg 39513 := tgI 39513
  k_fill
  intro p loose mean mg mb dp un gd cn cs a ccd cl outer A₀ base h₀ L m rest s Q E B F X0 N hoff T hk hd hu hy hret
  refine wpAny_call ?_
  k_dflt (refine' code_defWC ?y0k1 ?y0k2 ?y0k3 ?y0k4 ?y0kO ?y0k5 ?y0kA ?y0kF ?y0kK ?y0k6 ?y0k7 ?y0k8 ?y0k9 ?y0kB ?y0kD ?y0kR ?_ ?y0c2 ?y0c3 ?y0c4; (case y0kA => exact rfl); (case y0kF => exact rfl); (case y0kK => assumption); (case y0k1 => k_asm); (case y0k2 => k_asm); (case y0k3 => k_asm); (case y0k4 => k_asm); (case y0kO => assumption); (case y0k5 => k_asm); (case y0k6 => k_is); (case y0k7 => k_is); (case y0k8 => ktr_room); (case y0k9 => first | exact BindsTo.of_eq rfl | exact binds_K (by k_in) rfl (by k_is) rfl rfl rfl); (case y0kB => exact rfl); (case y0kD => decide +kernel); (case y0kR => assumption); (case y0c2 => exact rfl); (case y0c3 => exact rfl); (case y0c4 => exact rfl); k_whole; intro g1 L1 h1 tk1 cells1 FG1 F1 N1 Y1 B1 X1 T1 l1 G1; (try k_lt l1); k_cells Y1; (try dsimp only [List.cons_append, List.nil_append] at N1); (try k_lift B1); (first | ((refine name_env2 ?_); intro tkE aA eE qk xE) | ((try dsimp only); (try k_fold); (try ((refine name_env ?_); intro aA eE xE)))))
  have C6 : CodeHd g1 661 657 := codeHd_g hy G1 N (fun a ha => by rw [List.map_append]; exact List.mem_append_left _ ha) (X0 661 _ (by k_is))
  k_with "call ref" => guard_hyp tg9 : Mine.Tg 39513; ((with_reducible show wpAny _ _ (call (Value.ref 464) _) _ _ _); refine Halt.out ?_)
  k_steps
  rename_i oC oC2 dC dC2 _ _ _ Fo _ _ _ l8
  unfold Halt
  have inA : ∀ q ∈ (A, listOf (argRefs us).toArray n) :: argLed us, q ∈ (A, listOf (argRefs us).toArray n) :: ([(Vo, instObj 237 dO), (dO, dictOf (vecEs w o1 o2 o3 o4 o5 (Str.ofString "character") ok (.ref Io)) 5), (Io, listOf #[.str x t1] on), (Vn, instObj 237 dN), (dN, dictOf (vecEs w n1 n2 n3 n4 n5 (Str.ofString "character") nk (.ref Jn)) 5), (Jn, listOf #[.str y t2] nn), (Vx, instObj 237 dX), (dX, dictOf (vecEs w x1 x2 x3 x4 x5 (Str.ofString "character") xk (.ref Ix)) 5), (Ix, listOf vs.toArray xn), (657, tb)] ++ (X ++ argLed us)) := fun q hq => (List.mem_cons.mp hq).elim (fun e => e ▸ .head _) fun m => .tail _ (List.mem_append_right _ (List.mem_append_right _ m))
  have inV : ∀ q ∈ [(Vo, instObj 237 dO), (dO, dictOf (vecEs w o1 o2 o3 o4 o5 (Str.ofString "character") ok (.ref Io)) 5), (Io, listOf #[.str x t1] on), (Vn, instObj 237 dN), (dN, dictOf (vecEs w n1 n2 n3 n4 n5 (Str.ofString "character") nk (.ref Jn)) 5), (Jn, listOf #[.str y t2] nn), (Vx, instObj 237 dX), (dX, dictOf (vecEs w x1 x2 x3 x4 x5 (Str.ofString "character") xk (.ref Ix)) 5), (Ix, listOf vs.toArray xn), (657, tb)] ++ X, q ∈ (A, listOf (argRefs us).toArray n) :: ([(Vo, instObj 237 dO), (dO, dictOf (vecEs w o1 o2 o3 o4 o5 (Str.ofString "character") ok (.ref Io)) 5), (Io, listOf #[.str x t1] on), (Vn, instObj 237 dN), (dN, dictOf (vecEs w n1 n2 n3 n4 n5 (Str.ofString "character") nk (.ref Jn)) 5), (Jn, listOf #[.str y t2] nn), (Vx, instObj 237 dX), (dX, dictOf (vecEs w x1 x2 x3 x4 x5 (Str.ofString "character") xk (.ref Ix)) 5), (Ix, listOf vs.toArray xn), (657, tb)] ++ (X ++ argLed us)) := fun q hq => .tail _ ((List.mem_append.mp hq).elim (fun m => List.mem_append_left _ m) fun m => List.mem_append_right _ (List.mem_append_left _ m))
  have lV : ∀ q ∈ [(Vo, instObj 237 dO), (dO, dictOf (vecEs w o1 o2 o3 o4 o5 (Str.ofString "character") ok (.ref Io)) 5), (Io, listOf #[.str x t1] on), (Vn, instObj 237 dN), (dN, dictOf (vecEs w n1 n2 n3 n4 n5 (Str.ofString "character") nk (.ref Jn)) 5), (Jn, listOf #[.str y t2] nn), (Vx, instObj 237 dX), (dX, dictOf (vecEs w x1 x2 x3 x4 x5 (Str.ofString "character") xk (.ref Ix)) 5), (Ix, listOf vs.toArray xn), (657, tb)] ++ X, @LT.lt Nat _ q.1 L1 := fun q hq => l1 q (inV q hq)
  have hS : Dist [L1 + 1 + 1, L1 + 1, Vo, dO, Io, Vn, dN, Jn, Vx, dX, Ix, 657] := dist_new (fun a ha => by
    (first | (refine hideW ?_; intro gG9; obtain ⟨q, hq, zq1⟩ := List.mem_map.mp (show a ∈ ([(Vo, instObj 237 dO), (dO, dictOf (vecEs w o1 o2 o3 o4 o5 (Str.ofString "character") ok (.ref Io)) 5), (Io, listOf #[.str x t1] on), (Vn, instObj 237 dN), (dN, dictOf (vecEs w n1 n2 n3 n4 n5 (Str.ofString "character") nk (.ref Jn)) 5), (Jn, listOf #[.str y t2] nn), (Vx, instObj 237 dX), (dX, dictOf (vecEs w x1 x2 x3 x4 x5 (Str.ofString "character") xk (.ref Ix)) 5), (Ix, listOf vs.toArray xn), (657, tb)] : List (Addr × Obj)).map (·.1) from ha); refine (?_ : wpAny _ _ _ _ _ _); clear gG9; (first | subst zq1 | cases zq1)) | obtain ⟨q, hq, rfl⟩ := List.mem_map.mp (show a ∈ ([(Vo, instObj 237 dO), (dO, dictOf (vecEs w o1 o2 o3 o4 o5 (Str.ofString "character") ok (.ref Io)) 5), (Io, listOf #[.str x t1] on), (Vn, instObj 237 dN), (dN, dictOf (vecEs w n1 n2 n3 n4 n5 (Str.ofString "character") nk (.ref Jn)) 5), (Jn, listOf #[.str y t2] nn), (Vx, instObj 237 dX), (dX, dictOf (vecEs w x1 x2 x3 x4 x5 (Str.ofString "character") xk (.ref Ix)) 5), (Ix, listOf vs.toArray xn), (657, tb)] : List (Addr × Obj)).map (·.1) from ha))
    exact lV q (List.mem_append_left _ hq)) hD
  have hX' : ∀ q ∈ X, ∀ p ∈ [L1 + 1 + 1, L1 + 1, Vo, dO, Io, Vn, dN, Jn, Vx, dX, Ix, 657], @Ne Nat p q.1 := fun q hq => by
    have := lV q (List.mem_append_right _ hq)
    exact List.forall_mem_cons.mpr ⟨gt_ne (lt_up (lt_up this)), List.forall_mem_cons.mpr ⟨gt_ne (lt_up this), hX q hq⟩⟩
  have hX1 : ∀ q ∈ X, @Ne Nat q.1 (L1 + 1) := fun q hq => Ne.symm (hX' q hq _ (.tail _ (.head _)))
  have hX2 : ∀ q ∈ X, @Ne Nat q.1 (L1 + 1 + 1) := fun q hq => Ne.symm (hX' q hq _ (.head _))
  have hof : Off ((Fo, listOf #[.str (Str.ofString "old") tkE, .str (Str.ofString "new") (tkE + 1), .str (Str.ofString "x") (tkE + 1 + 1)] 0) :: (A, listOf (argRefs us).toArray n) :: argLed us) ((L1 + 1 + 1, oC) :: (L1 + 1, oC2) :: ([(Vo, instObj 237 dO), (dO, dictOf (vecEs w o1 o2 o3 o4 o5 (Str.ofString "character") ok (.ref Io)) 5), (Io, listOf #[.str x t1] on), (Vn, instObj 237 dN), (dN, dictOf (vecEs w n1 n2 n3 n4 n5 (Str.ofString "character") nk (.ref Jn)) 5), (Jn, listOf #[.str y t2] nn), (Vx, instObj 237 dX), (dX, dictOf (vecEs w x1 x2 x3 x4 x5 (Str.ofString "character") xk (.ref Ix)) 5), (Ix, listOf vs.toArray xn), (657, tb)] ++ X)) := off_cons (List.forall_mem_cons.mpr ⟨gt_ne (lt_in l8 (by k_mem)), List.forall_mem_cons.mpr ⟨gt_ne (lt_in l8 (by k_mem)), fun q hq => Nat.ne_of_gt (l8 q (.tail _ (.tail _ (inV q hq))))⟩⟩) (off_consR (fun q hq => lt_ne (lt_up (lt_up (l1 q (inA q hq))))) (off_consR (fun q hq => lt_ne (lt_up (l1 q (inA q hq)))) hO))
  (((k_dflt (refine (useM hof (takeOk (fvs := [_, _, _]) hT (osa3 (t := tkE) (u := tkE + 1) (v := tkE + 1 + 1)) (by decide) (by decide +kernel) (fun q hq => Nat.ne_of_gt (l8 q (.tail _ (.tail _ (inA q hq))))))) (by k_asm) (by k_asm) (by k_asm) (by k_asm) (by k_asm) (by first | exact rfl | assumption) (by ktr_room) (by ktr_units) (by first | exact True.intro | assumption) (by first | exact fun _ h => h | kqd_sub) ?_)); intro v9 p9 h9 tk9 F9 N9 O9 P9))
  (first | (refine hideW ?_; intro gG9; obtain ⟨V8, c8, zq1, zq2⟩ := P9; refine (?_ : wpAny _ _ _ _ _ _); clear gG9; (first | subst zq1 | cases zq1); (first | subst zq2 | cases zq2)) | obtain ⟨V8, c8, rfl, rfl⟩ := P9)
  replace N9 := news_sub (l := (V8, listOf #[.ref Vo, .ref Vn, .ref Vx] c8) :: (L1 + 1 + 1, oC) :: (L1 + 1, oC2) :: ([(Vo, instObj 237 dO), (dO, dictOf (vecEs w o1 o2 o3 o4 o5 (Str.ofString "character") ok (.ref Io)) 5), (Io, listOf #[.str x t1] on), (Vn, instObj 237 dN), (dN, dictOf (vecEs w n1 n2 n3 n4 n5 (Str.ofString "character") nk (.ref Jn)) 5), (Jn, listOf #[.str y t2] nn), (Vx, instObj 237 dX), (dX, dictOf (vecEs w x1 x2 x3 x4 x5 (Str.ofString "character") xk (.ref Ix)) 5), (Ix, listOf vs.toArray xn), (657, tb)] ++ X)) N9 (List.forall_mem_cons.mpr ⟨.head _, fun q hq => List.mem_append_right _ hq⟩)
  dsimp only [List.cons_append, List.nil_append] at N9
  clear hof
  k_with "call ref" => guard_hyp tg9 : Mine.Tg 39513; ((with_reducible show wpAny _ _ (call (Value.ref 586) _) _ _ _); (((k_dflt (refine use0 (needed_ok w _ _ _) (by k_asm) (by k_asm) (by k_asm) (by k_asm) (by k_asm) (by first | exact rfl | assumption) (by ktr_room) (by ktr_units) (by first | exact True.intro | assumption) ?_)); intro v9 p9 h9 tk9 F9 N9 O9 P9)); (obtain ⟨e8, e9⟩ := P9); subst e8 e9; (dsimp only [List.nil_append] at N9))
  k_with "call ref" => guard_hyp tg9 : Mine.Tg 39513; ((with_reducible show wpAny _ _ (call (Value.ref 645) _) _ _ _); refine Halt.out ?_)
  k_steps
  unfold Halt
  have hof2 : Off (vecL w Vo dO Io o1 o2 o3 o4 o5 ok on (Str.ofString "character") [.str x t1]) ([(L1 + 1 + 1, oC), (L1 + 1, oC2), (Vn, instObj 237 dN), (dN, dictOf (vecEs w n1 n2 n3 n4 n5 (Str.ofString "character") nk (.ref Jn)) 5), (Jn, listOf #[.str y t2] nn), (Vx, instObj 237 dX), (dX, dictOf (vecEs w x1 x2 x3 x4 x5 (Str.ofString "character") xk (.ref Ix)) 5), (Ix, listOf vs.toArray xn), (657, tb)] ++ X) := off_ixX hS (by k_extra "ixa") (by k_extra "ixa") rfl hX'
  (((k_dflt (refine (useM hof2 (one_ok w Vo dO Io o1 o2 o3 o4 o5 ok on x (Str.ofString "old") (Str.ofString "") t1 _ _)) (by k_asm) (by k_asm) (by k_asm) (by k_asm) (by k_asm) (by first | exact rfl | assumption) (by ktr_room) (by ktr_units) (by first | exact True.intro | assumption) (by first | exact fun _ h => h | kqd_sub) ?_)); intro v9 p9 h9 tk9 F9 N9 O9 P9))
  obtain ⟨rfl, rfl⟩ := P9
  replace N9 := news_sub (l := (L1 + 1 + 1, oC) :: (L1 + 1, oC2) :: ([(Vn, instObj 237 dN), (dN, dictOf (vecEs w n1 n2 n3 n4 n5 (Str.ofString "character") nk (.ref Jn)) 5), (Jn, listOf #[.str y t2] nn), (Vx, instObj 237 dX), (dX, dictOf (vecEs w x1 x2 x3 x4 x5 (Str.ofString "character") xk (.ref Ix)) 5), (Ix, listOf vs.toArray xn), (657, tb)] ++ X)) N9 (fun q hq => List.mem_append_right _ hq)
  dsimp only [List.cons_append, List.nil_append] at N9
  clear hof2
  k_steps
  rename_i oB _ _ dB _ _ _
  unfold Halt
  have hof3 : Off (vecL w Vn dN Jn n1 n2 n3 n4 n5 nk nn (Str.ofString "character") [.str y t2]) ([(L1 + 1 + 1, oC), (L1 + 1, oB), (Vx, instObj 237 dX), (dX, dictOf (vecEs w x1 x2 x3 x4 x5 (Str.ofString "character") xk (.ref Ix)) 5), (Ix, listOf vs.toArray xn), (657, tb)] ++ X) := off_ixX hS (by k_extra "ixa") (by k_extra "ixa") rfl hX'
  (((k_dflt (refine (useM hof3 (one_ok w Vn dN Jn n1 n2 n3 n4 n5 nk nn y (Str.ofString "new") (Str.ofString "") t2 _ _)) (by k_asm) (by k_asm) (by k_asm) (by k_asm) (by k_asm) (by first | exact rfl | assumption) (by ktr_room) (by ktr_units) (by first | exact True.intro | assumption) (by first | exact fun _ h => h | kqd_sub) ?_)); intro v9 p9 h9 tk9 F9 N9 O9 P9))
  obtain ⟨rfl, rfl⟩ := P9
  replace N9 := news_sub (l := (L1 + 1 + 1, oC) :: (L1 + 1, oB) :: ([(Vx, instObj 237 dX), (dX, dictOf (vecEs w x1 x2 x3 x4 x5 (Str.ofString "character") xk (.ref Ix)) 5), (Ix, listOf vs.toArray xn), (657, tb)] ++ X)) N9 (fun q hq => List.mem_append_right _ hq)
  dsimp only [List.cons_append, List.nil_append] at N9
  clear hof3
  k_with "eval Lambda Call" => guard_hyp tg9 : Mine.Tg 39513; ((k_dflt (refine' kla_eval ?d0 ?_; (case d0 => exact rfl))); refine Halt.out ?_)
  k_steps
  rename_i oE _ N5 dE _ _
  unfold Halt
  have ixL : IxA [L1 + 1 + 1, L1 + 1, Vo, dO, Io, Vn, dN, Jn, Vx, dX, Ix, 657] [(657, tb), (L1 + 1 + 1, oE), (L1 + 1, oB), (Vx, instObj 237 dX), (dX, dictOf (vecEs w x1 x2 x3 x4 x5 (Str.ofString "character") xk (.ref Ix)) 5), (Ix, listOf vs.toArray xn)] [11, 0, 1, 8, 9, 10] := by k_extra "ixa"
  have hS4 : Dist [657, L1 + 1 + 1, L1 + 1, Vx, dX, Ix] := dist_ixA hS ixL rfl
  k_dflt (refine' kla_two ?kF ?kN ?kT ?kC ?kc ?kl ?kt ?kp ?kq ?ku ?_; (case kF => k_asm); (case kN => exact news_sub (l := (657, tb) :: (X ++ [(L1 + 1 + 1, oE), (L1 + 1, oB), (Vx, instObj 237 dX), (dX, dictOf (vecEs w x1 x2 x3 x4 x5 (Str.ofString "character") xk (.ref Ix)) 5), (Ix, listOf vs.toArray xn)])) N9 (List.forall_mem_cons.mpr ⟨by k_mem, List.forall_mem_append.mpr ⟨fun q hq => .tail _ (.tail _ (.tail _ (.tail _ (.tail _ (.tail _ hq))))), by kqd_sub⟩⟩)); (case kT => k_asm); (case kC => exact C6); (case kc => exact rfl); (case kl => exact fun q hq => Ne.symm (hS4.1 q.1 (List.mem_map_of_mem hq))); (case kt => exact hTab); (case kp => exact rfl); (case kq => exact rfl); (case ku => exact rfl); k_whole)
  intro fL c' oc' vs' t' ctv hL' tkL FL NL hLam lf hc
  have hcne : ∀ q ∈ [(657, tb), (L1 + 1 + 1, oE), (L1 + 1, oB), (Vx, instObj 237 dX), (dX, dictOf (vecEs w x1 x2 x3 x4 x5 (Str.ofString "character") xk (.ref Ix)) 5), (Ix, listOf vs.toArray xn)], @Ne Nat c' q.1 := fun q hq => hc.elim (fun h => Nat.ne_of_gt (h.2 q hq)) fun h => by
    (first | (refine hideW ?_; intro gG9; obtain ⟨i, _, a1⟩ := ixL.at q hq; refine (?_ : wpAny _ _ _ _ _ _); clear gG9) | obtain ⟨i, _, a1⟩ := ixL.at q hq)
    exact Ne.symm (hX' (c', oc') (h ▸ .head _) q.1 a1.mem)
  have hS5 : Dist [fL, c', 657, L1 + 1 + 1, L1 + 1, Vx, dX, Ix] := ⟨fun b hb => by
    (first | (refine hideW ?_; intro gG9; obtain ⟨q, hq, zq1⟩ := List.mem_map.mp (show b ∈ ((c', oc') :: (657, lamTab c') :: [(L1 + 1 + 1, oE), (L1 + 1, oB), (Vx, instObj 237 dX), (dX, dictOf (vecEs w x1 x2 x3 x4 x5 (Str.ofString "character") xk (.ref Ix)) 5), (Ix, listOf vs.toArray xn)]).map (·.1) from hb); refine (?_ : wpAny _ _ _ _ _ _); clear gG9; (first | subst zq1 | cases zq1)) | obtain ⟨q, hq, rfl⟩ := List.mem_map.mp (show b ∈ ((c', oc') :: (657, lamTab c') :: [(L1 + 1 + 1, oE), (L1 + 1, oB), (Vx, instObj 237 dX), (dX, dictOf (vecEs w x1 x2 x3 x4 x5 (Str.ofString "character") xk (.ref Ix)) 5), (Ix, listOf vs.toArray xn)]).map (·.1) from hb))
    exact Nat.ne_of_gt (lf q hq), fun b hb => by
    (first | (refine hideW ?_; intro gG9; obtain ⟨q, hq, zq1⟩ := List.mem_map.mp (show b ∈ [(657, tb), (L1 + 1 + 1, oE), (L1 + 1, oB), (Vx, instObj 237 dX), (dX, dictOf (vecEs w x1 x2 x3 x4 x5 (Str.ofString "character") xk (.ref Ix)) 5), (Ix, listOf vs.toArray xn)].map (·.1) from hb); refine (?_ : wpAny _ _ _ _ _ _); clear gG9; (first | subst zq1 | cases zq1)) | obtain ⟨q, hq, rfl⟩ := List.mem_map.mp (show b ∈ [(657, tb), (L1 + 1 + 1, oE), (L1 + 1, oB), (Vx, instObj 237 dX), (dX, dictOf (vecEs w x1 x2 x3 x4 x5 (Str.ofString "character") xk (.ref Ix)) 5), (Ix, listOf vs.toArray xn)].map (·.1) from hb))
    exact hcne q hq, hS4⟩
  have hout : X = [] ∧ (@LT.lt Nat _ 657 c') ∧ (@LT.lt Nat _ Ix c') ∨ X = [(c', oc')] := hc.elim (fun h => .inl ⟨h.1, h.2 _ (.head _), h.2 (Ix, listOf vs.toArray xn) (by k_mem)⟩) .inr
  have dL1 := hLam.1
  have dL2 := hLam.2
  clear hS hX' hX1 hX2 ixL hc hcne
  k_with "eval ListComp Call cons" => guard_hyp tg9 : Mine.Tg 39513; refine Halt.out ?_
  k_steps
  rename_i LM _ _ _ _ _ _ _ lM oF _ NM _ _
  unfold Halt
  have hS : Dist [LM + 1, fL, c', 657, L1 + 1 + 1, L1 + 1, Vx, dX, Ix] := ⟨fun b hb => by
    (first | (refine hideW ?_; intro gG9; obtain ⟨q, hq, zq1⟩ := List.mem_map.mp (show b ∈ ((fL, _) :: (c', oc') :: (657, lamTab c') :: [(L1 + 1 + 1, oE), (L1 + 1, oB), (Vx, instObj 237 dX), (dX, dictOf (vecEs w x1 x2 x3 x4 x5 (Str.ofString "character") xk (.ref Ix)) 5), (Ix, listOf vs.toArray xn)]).map (·.1) from hb); refine (?_ : wpAny _ _ _ _ _ _); clear gG9; (first | subst zq1 | cases zq1)) | obtain ⟨q, hq, rfl⟩ := List.mem_map.mp (show b ∈ ((fL, _) :: (c', oc') :: (657, lamTab c') :: [(L1 + 1 + 1, oE), (L1 + 1, oB), (Vx, instObj 237 dX), (dX, dictOf (vecEs w x1 x2 x3 x4 x5 (Str.ofString "character") xk (.ref Ix)) 5), (Ix, listOf vs.toArray xn)]).map (·.1) from hb))
    exact gt_ne (lt_up (lM q hq)), hS5⟩
  ((k_dflt (refine LCg.ListComp_U (F₀ := by k_asm) (by with_unfolding_all rfl) (by decide) (by rfl) (by decide) (by rfl) ?_)))
  k_with "call ref" => guard_hyp tg9 : Mine.Tg 39513; ((with_reducible show wpAny _ _ (call (Value.ref 638) _) _ _ _); refine Halt.out ?_)
  k_steps
  unfold Halt
  have hvl : vs.length ≤ 6 := by rw [hv.1]; exact hl
  (((k_dflt (refine useP (texts_ok w Vx dX Ix x1 x2 x3 x4 x5 xk xn vs (Nat.le_trans hvl (by decide))) (by k_asm) (by k_asm) (by k_asm) (by k_asm) (by k_asm) (by first | exact rfl | assumption) (by ktr_room) (by ktr_units) (by first | exact True.intro | assumption | exact PySem.W.CodeHd.keeps (by assumption) (Fr.keep (by assumption))) (by k_extra "pkA") (by k_extra "off") ?_)); intro v9 p9 h9 tk9 F9 N9 O9 P9))
  (first | (refine hideW ?_; intro gG9; obtain ⟨D8, c8, zq1, zq2⟩ := P9; refine (?_ : wpAny _ _ _ _ _ _); clear gG9; (first | subst zq1 | cases zq1); (first | subst zq2 | cases zq2)) | obtain ⟨D8, c8, rfl, rfl⟩ := P9)
  dsimp only [vecL, List.cons_append, List.nil_append] at N9
  refine LCg.CompSrc.ledger (by rfl) (by k_asm) (by k_asm) (by k_mem) (by rw [sizeLine_eq, List.size_toArray]; (exact Nat.le_trans (by with_reducible assumption) (Nat.le_of_ble_eq_true rfl))) ?_
  intro g2
  refine comp_const (fun i ys => OSAre ys ((os.map fun o => o.map (mapT (chF (b.zip h)))).take i)) OSAre.nil ?turn3 ?fin3
  case turn3 =>
    intro i v ys I oI C oC3 D m₂ h11 tk11 E' hi hv' hP hC hx2 F10 N10 off10 ne10
    have hv2 : vs[i]? = some v := by simpa using hv'
    (first | (refine hideW ?_; intro gG9; obtain ⟨o, hoi, hov⟩ := hv.2 i v hv2; refine (?_ : wpAny _ _ _ _ _ _); clear gG9) | obtain ⟨o, hoi, hov⟩ := hv.2 i v hv2)
    have hmo : o ∈ os := List.mem_of_getElem? hoi
    k_with "call ref" => guard_hyp tg9 : Mine.Tg 39513; ((with_reducible show wpAny _ _ (call (Value.ref 619) _) _ _ _); (((k_dflt (refine use0 (chartr_ok w x y _ _ b h o v hb hh hbl hhl hxl hyl hxa hya hov (fun z hz => hx z (hz ▸ hmo))) (by k_asm) (by k_asm) (by k_asm) (by k_asm) (by k_asm) (by first | exact rfl | assumption) (by ktr_room) (by ktr_units) (by first | exact True.intro | assumption) ?_)); intro v9 p9 h9 tk9 F9 N9 O9 P9)); obtain ⟨ev, e9⟩ := P9; subst e9; (try dsimp only [List.nil_append] at N9))
    k_with "CompEnd" => guard_hyp tg9 : Mine.Tg 39513; refine Halt.out ?_
    k_steps
    unfold Halt
    refine LCg.CompEnd.intro (by assumption) (by assumption) _ (fun _ h => h) off10 (Or.inr ⟨_, .head _, rfl, _, rfl⟩) ⟨rfl, ?_⟩
    have : (os.map fun o => o.map (mapT (chF (b.zip h))))[i]? = some (o.map (mapT (chF (b.zip h)))) := by simp [hoi]
    rw [List.take_add_one, this]
    exact hP.snoc ev
  case fin3 =>
    intro ys hP
    rw [List.take_of_length_le (by rw [List.length_map, List.size_toArray, hv.1]; exact Nat.le_refl _)] at hP
    have hyl : ys.length ≤ 6 := by rw [hP.1, List.length_map]; exact hl
    unfold LCg.FinE
    intro D3 h3 tk3 F10 N10 o10
    k_with "call type:list cons nil" => guard_hyp tg9 : Mine.Tg 39513; (k_dflt (refine' kup_listOf (zs := ys) (its2 := ys.toArray) ?F ?N ?b (List.toList_toArray) ?_ ?z; (case F => k_asm); (case N => k_asm); (case b => k_mem); (case z => rw [sizeLine_eq, List.toList_toArray]; (exact Nat.le_trans (by with_reducible assumption) (Nat.le_of_ble_eq_true rfl)))); intro D5 c5 h5 F5 N5 l5; (try k_lt l5))
    k_with "call ref" => guard_hyp tg9 : Mine.Tg 39513; ((((with_reducible show wpAny _ _ (call (Value.ref 237) _) _ _ _); (k_dflt (refine useV (by k_asm) (by k_asm) (by k_asm) (by k_asm) (by k_asm) (by first | exact rfl | assumption) (by ktr_room) (by ktr_units) ?_)); intro _ _ _ _ _ _ _ _ _ _ _ _ _)))
    k_steps
    exact Out.intro (by assumption) (by assumption) [(_, instObj 237 _), (_, dictOf (vecEs w _ _ _ _ _ (Str.ofString "character") _ (.ref D5)) 5), (D5, listOf ys.toArray c5), (Ix, listOf vs.toArray xn), (657, lamTab c'), (c', oc'), (Vx, instObj 237 dX), (dX, dictOf (vecEs w x1 x2 x3 x4 x5 (Str.ofString "character") xk (.ref Ix)) 5)] (by kqd_sub) (VecR.intro ⟨c', oc', vs', t', rfl, hP, hLam, hout⟩)
theorem bchrD (w : World) (A U1 U2 U3 Vo dO Io Vn dN Jn Vx dX Ix : Addr) (n o1 o2 o3 o4 o5 ok on n1 n2 n3 n4 n5 nk nn x1 x2 x3 x4 x5 xk xn t1 t2 : Nat) (x y : Str) (b h : List Nat) (vs : List Value) (os : List (Option Str))
    (hb : spreadF x.cps.toList = some b) (hh : spreadF y.cps.toList = some h) (hbl : b.length ≤ h.length) (hhl : h.length ≤ 200)
    (hxl : x.length ≤ 20) (hyl : y.length ≤ 20) (hxa : ∀ c ∈ x.cps.toList, c < 128) (hya : ∀ c ∈ y.cps.toList, c < 128)
    (hv : OSAre vs os) (hl : os.length ≤ 6) (hx : ∀ x, some x ∈ os → x.length ≤ 100) (ho : Chain [657, Ix, dX, Vx, Io, dO, Vo, U1, Jn, dN, Vn, U2, U3, A]) :
  CallsOk w 662 [.none, .ref A, .none] 60 4000 ([(A, listOf #[.ref U1, .ref U2, .ref U3] n), (U3, tup [.none, .ref Vx]), (U2, tup [.none, .ref Vn]), (U1, tup [.none, .ref Vo]),
    (Vo, instObj 237 dO), (dO, dictOf (vecEs w o1 o2 o3 o4 o5 (Str.ofString "character") ok (.ref Io)) 5), (Io, listOf #[.str x t1] on), (Vn, instObj 237 dN), (dN, dictOf (vecEs w n1 n2 n3 n4 n5 (Str.ofString "character") nk (.ref Jn)) 5), (Jn, listOf #[.str y t2] nn), (Vx, instObj 237 dX), (dX, dictOf (vecEs w x1 x2 x3 x4 x5 (Str.ofString "character") xk (.ref Ix)) 5), (Ix, listOf vs.toArray xn), (657, tabObj #[])]) (fun h => CodeHd h 661 657)
    (VecR w (Str.ofString "character") fun ys tl => ∃ c' oc' vs' t', tl = [(Ix, listOf vs.toArray xn), (657, lamTab c'), (c', oc'), (Vx, instObj 237 dX), (dX, dictOf (vecEs w x1 x2 x3 x4 x5 (Str.ofString "character") xk (.ref Ix)) 5)] ∧ OSAre ys (os.map fun o => o.map (mapT (chF (b.zip h)))) ∧ LamCode oc' vs' t' ∧ (@LT.lt Nat _ 657 c') ∧ (@LT.lt Nat _ Ix c')) := by
  have hS : Desc [A, U3, U2, Vn, dN, Jn, U1, Vo, dO, Io, Vx, dX, Ix, 657] := desc_of ho
  refine ((bchrG w A Vo dO Io Vn dN Jn Vx dX Ix [(U1, .none, .ref Vo), (U2, .none, .ref Vn), (U3, .none, .ref Vx)] n o1 o2 o3 o4 o5 ok on n1 n2 n3 n4 n5 nk nn x1 x2 x3 x4 x5 xk xn t1 t2 x y b h vs os (tabObj #[]) [] hb hh hbl hhl hxl hyl hxa hya hv hl hx tkD (.inl ⟨rfl, rfl⟩) ?_ (dist_at hS.dist [7, 8, 9, 3, 4, 5, 10, 11, 12, 13] rfl rfl) (fun _ h => nomatch h)).sub (by kqd_sub)).weak ?_
  · show Off [(A, _), (U1, _), (U2, _), (U3, _)] (_ :: _ :: _ :: _ :: _ :: _ :: _ :: _ :: _ :: _ :: [])
    k_extra "off"
  · exact VecR.mono fun ys tl ⟨c', oc', vs', t', h2, h3, h4, h5⟩ => h5.elim (fun h => ⟨c', oc', vs', t', h2, h3, h4, h.2⟩) fun h => nomatch h
theorem bchrE (w : World) (A U1 U2 U3 Vo dO Io Vn dN Jn Vx dX Ix : Addr) (n o1 o2 o3 o4 o5 ok on n1 n2 n3 n4 n5 nk nn x1 x2 x3 x4 x5 xk xn t1 t2 k3 : Nat) (x y : Str) (b h : List Nat) (vs : List Value) (os : List (Option Str))
    (hb : spreadF x.cps.toList = some b) (hh : spreadF y.cps.toList = some h) (hbl : b.length ≤ h.length) (hhl : h.length ≤ 200)
    (hxl : x.length ≤ 20) (hyl : y.length ≤ 20) (hxa : ∀ c ∈ x.cps.toList, c < 128) (hya : ∀ c ∈ y.cps.toList, c < 128)
    (hv : OSAre vs os) (hl : os.length ≤ 6) (hx : ∀ x, some x ∈ os → x.length ≤ 100) (cL : Addr) (oL : Obj) (vL : Array Value) (tL : Tok) (hL : LamCode oL vL tL) (ho : Chain [657, Ix, Io, dO, Vo, U1, Jn, dN, Vn, U2, dX, Vx, U3, A]) (hc : (@LT.lt Nat _ cL Io) ∧ (@LT.lt Nat _ 657 cL) ∧ (@Ne Nat cL Ix)) :
  CallsOk w 662 [.none, .ref A, .none] 60 4000 ([(A, listOf #[.ref U1, .ref U2, .ref U3] n), (U3, tup [.str (Str.ofString "x") k3, .ref Vx]), (U2, tup [.none, .ref Vn]), (U1, tup [.none, .ref Vo]),
    (Vo, instObj 237 dO), (dO, dictOf (vecEs w o1 o2 o3 o4 o5 (Str.ofString "character") ok (.ref Io)) 5), (Io, listOf #[.str x t1] on), (Vn, instObj 237 dN), (dN, dictOf (vecEs w n1 n2 n3 n4 n5 (Str.ofString "character") nk (.ref Jn)) 5), (Jn, listOf #[.str y t2] nn), (Vx, instObj 237 dX), (dX, dictOf (vecEs w x1 x2 x3 x4 x5 (Str.ofString "character") xk (.ref Ix)) 5), (Ix, listOf vs.toArray xn), (657, lamTab cL), (cL, oL)]) (fun h => CodeHd h 661 657)
    (VecR w (Str.ofString "character") fun ys tl => tl = [(Ix, listOf vs.toArray xn), (657, lamTab cL), (cL, oL)] ∧ OSAre ys (os.map fun o => o.map (mapT (chF (b.zip h))))) := by
  have hS : Dist [A, U3, Vx, dX, U2, Vn, dN, Jn, U1, Vo, dO, Io, cL, Ix, 657] := (Desc.put (a := A) (hi := [U3, Vx, dX, U2, Vn, dN, Jn, U1, Vo, dO]) (x := Io) (lo := [Ix, 657]) (desc_of ho) hc.1 (List.forall_mem_cons.mpr ⟨hc.2.2, List.forall_mem_cons.mpr ⟨Nat.ne_of_gt hc.2.1, List.forall_mem_nil _⟩⟩)).dist
  have hD : Dist [cL, Vo, dO, Io, Vn, dN, Jn, Vx, dX, Ix, 657] := dist_at hS [12, 9, 10, 11, 5, 6, 7, 2, 3, 13, 14] rfl rfl
  refine ((bchrG w A Vo dO Io Vn dN Jn Vx dX Ix [(U1, .none, .ref Vo), (U2, .none, .ref Vn), (U3, .str (Str.ofString "x") k3, .ref Vx)] n o1 o2 o3 o4 o5 ok on n1 n2 n3 n4 n5 nk nn x1 x2 x3 x4 x5 xk xn t1 t2 x y b h vs os (lamTab cL) [(cL, oL)] hb hh hbl hhl hxl hyl hxa hya hv hl hx tkE (.inr ⟨cL, oL, vL, tL, rfl, rfl, hL⟩) ?_ hD.2 (fun q hq p hp => by cases List.mem_singleton.mp hq; exact Ne.symm (hD.1 p hp))).sub (by kqd_sub)).thin ?_
  · show Off [(A, _), (U1, _), (U2, _), (U3, _)] (_ :: _ :: _ :: _ :: _ :: _ :: _ :: _ :: _ :: _ :: _ :: [])
    k_extra "off"
  · rintro v post ⟨R, dR, Ir, r1, r2, r3, r4, r5, rk, rn, ys, tl, h1, h2, c', oc', vs', t', h3, h4, h5, h6⟩
    rcases h6 with h6 | h6
    · cases h6.1
    · cases h6
      exact ⟨_, by rw [h2, h3]; kqd_sub, R, dR, Ir, r1, r2, r3, r4, r5, rk, rn, ys, _, h1, rfl, rfl, h4⟩

end

section
-- part BUniq
set_option maxRecDepth 100000 in
set_option maxHeartbeats 1000000 in
theorem oneNone_ok (w : World) (nm df : Str) (ta tc : Nat) : CallsOk w 645 [.none, .str nm ta, .str df tc] 20 1200 [] (fun _ => True) (fun v _ => ∃ ts, v = .str df ts) := by
  unfold CallsOk
  have tg9 : Mine.Tg 66718 := tgI 66718
  k_fill
  intro p loose mean mg mb dp un gd cn cs a ccd cl outer A₀ base h₀ L m rest s Q E B F X N hoff T hk hd hu hy hret
  refine wpAny_call ?_
  k_dflt (refine' code_defW ?y0k1 ?y0k2 ?y0k3 ?y0k4 ?y0kO ?y0k5 ?y0kA ?y0kF ?y0kK ?y0k6 ?y0k7 ?y0k8 ?y0k9 ?y0kB ?y0kR ?_ ?y0c2 ?y0c3 ?y0c4 ?y0c5; (case y0kA => exact rfl); (case y0kF => exact rfl); (case y0kK => assumption); (case y0k1 => k_asm); (case y0k2 => k_asm); (case y0k3 => k_asm); (case y0k4 => k_asm); (case y0kO => assumption); (case y0k5 => k_asm); (case y0k6 => k_is); (case y0k7 => k_is); (case y0k8 => ktr_room); (case y0k9 => first | exact BindsTo.of_eq rfl | exact binds_K (by k_in) rfl (by k_is) rfl rfl rfl); (case y0c5 => decide); (case y0kB => exact locs rfl); (case y0kR => assumption); (case y0c2 => exact rfl); (case y0c3 => exact rfl); (case y0c4 => exact rfl); k_whole; intro g1 L1 h1 FG1 F1 N1 B1 X1 T1 G1; (try k_lift B1); (first | ((refine name_env2 ?_); intro tkE aA eE qk xE) | ((try dsimp only); (try k_fold); (try ((refine name_env ?_); intro aA eE xE)))))
  k_steps
  exact Out.intro (by assumption) (by assumption) [] (by kqd_sub) ⟨_, rfl⟩
set_option maxRecDepth 100000 in
set_option maxHeartbeats 4000000 in
theorem buniqN (w : World) (A Vx dX Ix : Addr) (us : List Arg3) (n x1 x2 x3 x4 x5 xk xn : Nat) (sep : Str) (sv : Value) (preS : List (Addr × Obj)) (vs : List Value) (os : List (Option Str)) (hv : OSAre vs os) (hl : os.length ≤ 7)
    (hx : ∀ x, some x ∈ os → x.length ≤ 40) (hsl : sep.length ≤ 2) (hT : TakeOk us [Str.ofString "names", Str.ofString "sep"] [.ref Vx, sv])
    (hW : ∀ ta tc, CallsOk w 645 [sv, .str (Str.ofString "sep") ta, .str (Str.ofString ".") tc] 20 1200 preS (fun _ => True) (fun v _ => ∃ ts, v = .str sep ts))
    (hO1 : Off ((A, listOf (argRefs us).toArray n) :: argLed us) ([(Vx, instObj 237 dX), (dX, dictOf (vecEs w x1 x2 x3 x4 x5 (Str.ofString "character") xk (.ref Ix)) 5), (Ix, listOf vs.toArray xn)] ++ preS)) (hO2 : Off preS [(Vx, instObj 237 dX), (dX, dictOf (vecEs w x1 x2 x3 x4 x5 (Str.ofString "character") xk (.ref Ix)) 5), (Ix, listOf vs.toArray xn)]) :
  CallsOk w 667 [.none, .ref A, .none] 60 4000 ([(A, listOf (argRefs us).toArray n), (Vx, instObj 237 dX), (dX, dictOf (vecEs w x1 x2 x3 x4 x5 (Str.ofString "character") xk (.ref Ix)) 5), (Ix, listOf vs.toArray xn)] ++ (preS ++ argLed us)) (fun _ => True)
    (VecR w (Str.ofString "character") fun ys tl => ∃ fr fo, tl = [(Ix, listOf vs.toArray xn)] ∧ OSAre ys (fo.map some) ∧ MkU (os.map fun o => o.getD (Str.ofString "NA")) sep os.length fr fo) := by
  unfold CallsOk
  have tg9 : Mine.Tg 9732 := tgI 9732
  k_fill
  intro p loose mean mg mb dp un gd cn cs a ccd cl outer A₀ base h₀ L m rest s Q E B F X N hoff T hk hd hu hy hret
  refine wpAny_call ?_
  k_dflt (refine' code_defW ?y1k1 ?y1k2 ?y1k3 ?y1k4 ?y1kO ?y1k5 ?y1kA ?y1kF ?y1kK ?y1k6 ?y1k7 ?y1k8 ?y1k9 ?y1kB ?y1kR ?_ ?y1c2 ?y1c3 ?y1c4 ?y1c5; (case y1kA => exact rfl); (case y1kF => exact rfl); (case y1kK => assumption); (case y1k1 => k_asm); (case y1k2 => k_asm); (case y1k3 => k_asm); (case y1k4 => k_asm); (case y1kO => assumption); (case y1k5 => k_asm); (case y1k6 => k_is); (case y1k7 => k_is); (case y1k8 => ktr_room); (case y1k9 => first | exact BindsTo.of_eq rfl | exact binds_K (by k_in) rfl (by k_is) rfl rfl rfl); (case y1c5 => decide); (case y1kB => exact locs rfl); (case y1kR => assumption); (case y1c2 => exact rfl); (case y1c3 => exact rfl); (case y1c4 => exact rfl); k_whole; intro g1 L1 h1 FG1 F1 N1 B1 X1 T1 G1; (try k_lift B1); (first | ((refine name_env2 ?_); intro tkE aA eE qk xE) | ((try dsimp only); (try k_fold); (try ((refine name_env ?_); intro aA eE xE)))))
  k_with "call ref" => guard_hyp tg9 : Mine.Tg 9732; ((with_reducible show wpAny _ _ (call (Value.ref 464) _) _ _ _); refine Halt.out ?_)
  k_with "call ref" => guard_hyp tg9 : Mine.Tg 9732; ((with_reducible show wpAny _ _ (call (Value.ref 586) _) _ _ _); (((k_dflt (refine use0 (needed_ok w _ _ _) (by k_asm) (by k_asm) (by k_asm) (by k_asm) (by k_asm) (by first | exact rfl | assumption) (by ktr_room) (by ktr_units) (by first | exact True.intro | assumption) ?_)); intro v9 p9 h9 tk9 F9 N9 O9 P9)); (obtain ⟨e8, e9⟩ := P9); subst e8 e9; (dsimp only [List.nil_append] at N9))
  k_steps
  rename_i Fo _ _ _ l8
  unfold Halt
  have inA : ∀ q ∈ (A, listOf (argRefs us).toArray n) :: argLed us, q ∈ [(A, listOf (argRefs us).toArray n), (Vx, instObj 237 dX), (dX, dictOf (vecEs w x1 x2 x3 x4 x5 (Str.ofString "character") xk (.ref Ix)) 5), (Ix, listOf vs.toArray xn)] ++ (preS ++ argLed us) := fun q hq => (List.mem_cons.mp hq).elim (fun e => e ▸ .head _) fun m => .tail _ (.tail _ (.tail _ (.tail _ (show q ∈ preS ++ argLed us from List.mem_append_right _ m))))
  have inV : ∀ q ∈ [(Vx, instObj 237 dX), (dX, dictOf (vecEs w x1 x2 x3 x4 x5 (Str.ofString "character") xk (.ref Ix)) 5), (Ix, listOf vs.toArray xn)] ++ preS, q ∈ [(A, listOf (argRefs us).toArray n), (Vx, instObj 237 dX), (dX, dictOf (vecEs w x1 x2 x3 x4 x5 (Str.ofString "character") xk (.ref Ix)) 5), (Ix, listOf vs.toArray xn)] ++ (preS ++ argLed us) := fun q hq => .tail _ ((List.mem_append.mp hq).elim (fun m => List.mem_append_left _ m) fun m => List.mem_append_right _ (List.mem_append_left _ m))
  have hof : Off ((Fo, listOf #[.str (Str.ofString "names") tkE, .str (Str.ofString "sep") (tkE + 1)] 0) :: (A, listOf (argRefs us).toArray n) :: argLed us) ([(Vx, instObj 237 dX), (dX, dictOf (vecEs w x1 x2 x3 x4 x5 (Str.ofString "character") xk (.ref Ix)) 5), (Ix, listOf vs.toArray xn)] ++ preS) := off_cons (fun q hq => Nat.ne_of_gt (l8 q (inV q hq))) hO1
  (((k_dflt (refine (useM hof (takeOk (fvs := [_, _]) hT (osa2 (t := tkE) (u := tkE + 1)) (by decide) (by decide +kernel) (fun q hq => Nat.ne_of_gt (l8 q (inA q hq))))) (by k_asm) (by k_asm) (by k_asm) (by k_asm) (by k_asm) (by first | exact rfl | assumption) (by ktr_room) (by ktr_units) (by first | exact True.intro | assumption) (by first | exact fun _ h => h | kqd_sub) ?_)); intro v9 p9 h9 tk9 F9 N9 O9 P9))
  (first | (refine hideW ?_; intro gG9; obtain ⟨V8, c8, zq1, zq2⟩ := P9; refine (?_ : wpAny _ _ _ _ _ _); clear gG9; (first | subst zq1 | cases zq1); (first | subst zq2 | cases zq2)) | obtain ⟨V8, c8, rfl, rfl⟩ := P9)
  replace N9 := news_sub (l := (V8, listOf #[.ref Vx, sv] c8) :: ([(Vx, instObj 237 dX), (dX, dictOf (vecEs w x1 x2 x3 x4 x5 (Str.ofString "character") xk (.ref Ix)) 5), (Ix, listOf vs.toArray xn)] ++ preS)) N9 (List.forall_mem_cons.mpr ⟨.head _, fun q hq => List.mem_append_right _ hq⟩)
  dsimp only [List.cons_append, List.nil_append] at N9
  clear hof inA inV l8
  k_with "exec Assign cons ListComp" => guard_hyp tg9 : Mine.Tg 9732; refine Halt.out ?_
  k_steps
  unfold Halt
  have hvl : vs.length ≤ 7 := by rw [hv.1]; exact hl
  ((k_dflt (refine LCg.Assign_ListComp_U (F₀ := by k_asm) (by rfl) (by with_unfolding_all rfl) (by with_unfolding_all rfl) (by decide) (by rfl) (by decide) (by rfl) (by rfl) (by rfl) ?_)))
  k_with "CompSrc" => guard_hyp tg9 : Mine.Tg 9732; refine Halt.out ?_
  k_steps
  unfold Halt
  refine LCg.CompSrc.ledger (by rfl) (by k_asm) (by k_asm) (ax := Ix) (its := vs.toArray) (k := xn) (by k_mem) (by rw [sizeLine_eq, List.size_toArray]; (exact Nat.le_trans (by with_reducible assumption) (Nat.le_of_ble_eq_true rfl))) ?_
  intro g2
  refine comp_const (fun i ys => OSAre ys ((os.map fun o => some (o.getD (Str.ofString "NA"))).take i)) OSAre.nil ?turn3 ?fin3
  case turn3 =>
    intro i v ys I oI C oC3 D m₂ h11 tk11 E' hi hv' hP hC hx2 F10 N10 off10 ne10
    have hv2 : vs[i]? = some v := by simpa using hv'
    (first | (refine hideW ?_; intro gG9; obtain ⟨o, hoi, hov⟩ := hv.2 i v hv2; refine (?_ : wpAny _ _ _ _ _ _); clear gG9) | obtain ⟨o, hoi, hov⟩ := hv.2 i v hv2)
    have ht : ∀ u : Value, OSV (some (o.getD (Str.ofString "NA"))) u → OSAre (ys ++ [u]) ((os.map fun o => some (o.getD (Str.ofString "NA"))).take (i + 1)) := fun u hu => by
      have : (os.map fun o => some (o.getD (Str.ofString "NA")))[i]? = some (some (o.getD (Str.ofString "NA"))) := by simp [hoi]
      rw [List.take_add_one, this]
      exact hP.snoc hu
    k_with "CompEnd" => guard_hyp tg9 : Mine.Tg 9732; refine Halt.out ?_
    cases o with
    | none =>
      obtain rfl : v = .none := hov
      k_steps
      unfold Halt
      exact LCg.CompEnd.intro (by assumption) N10 _ (fun _ h => h) off10 (Or.inr ⟨_, by k_mem, rfl, _, rfl⟩) ⟨rfl, ht _ ⟨_, rfl⟩⟩
    | some z =>
      obtain ⟨tz, rfl⟩ := hov
      k_steps
      unfold Halt
      exact LCg.CompEnd.intro (by assumption) N10 _ (fun _ h => h) off10 (Or.inr ⟨_, by k_mem, rfl, _, rfl⟩) ⟨rfl, ht _ ⟨_, rfl⟩⟩
  case fin3 =>
    intro ys hP
    rw [List.take_of_length_le (by rw [List.length_map, List.size_toArray, hv.1]; exact Nat.le_refl _)] at hP
    unfold LCg.FinA
    intro D3 h3 tk3 F10 N10 o10
    have oF := off1_of o10
    have oD : @Ne Nat Ix D3 := oF (Ix, listOf vs.toArray xn) (by k_mem)
    clear o10
    replace N10 := news_sub (l := (D3, LCg.lst ys) :: (Ix, listOf vs.toArray xn) :: preS) N10 (List.forall_mem_cons.mpr ⟨.head _, List.forall_mem_cons.mpr ⟨by k_mem, fun q hq => .tail _ (.tail _ (.tail _ (.tail _ (.tail _ hq))))⟩⟩)
    have hns : OSAre ys ((os.map fun o => o.getD (Str.ofString "NA")).map some) := by rw [List.map_map]; exact hP
    have hnl : (os.map fun o => o.getD (Str.ofString "NA")).length ≤ 7 := by rw [List.length_map]; exact hl
    have hnx : ∀ x ∈ (os.map fun o => o.getD (Str.ofString "NA")), x.length ≤ 40 := fun x hm => by
      (first | (refine hideW ?_; intro gG9; obtain ⟨o, ho', zq1⟩ := List.mem_map.mp hm; refine (?_ : wpAny _ _ _ _ _ _); clear gG9; (first | subst zq1 | cases zq1)) | obtain ⟨o, ho', rfl⟩ := List.mem_map.mp hm)
      cases o with
      | none => exact Nat.le_of_ble_eq_true rfl
      | some z => exact hx z ho'
    k_with "call ref" => guard_hyp tg9 : Mine.Tg 9732; ((with_reducible show wpAny _ _ (call (Value.ref 645) _) _ _ _); refine Halt.out ?_)
    k_steps
    unfold Halt
    (((k_dflt (refine (useM (rest := [(D3, LCg.lst ys), (Ix, listOf vs.toArray xn)]) (off_consR (fun q hq => oF q (.tail _ (.tail _ (.tail _ (.tail _ hq))))) (fun p hp q hq => hO2 p hp q (by cases List.mem_singleton.mp hq; k_mem))) (hW _ _)) (by k_asm) (by k_asm) (by k_asm) (by k_asm) (by k_asm) (by first | exact rfl | assumption) (by ktr_room) (by ktr_units) (by first | exact True.intro | assumption) (by first | exact fun _ h => h | kqd_sub) ?_)); intro v9 p9 h9 tk9 F9 N9 O9 P9))
    obtain ⟨ts, rfl⟩ := P9
    replace N9 := news_sub (l := [(D3, LCg.lst ys), (Ix, listOf vs.toArray xn)]) N9 (fun q hq => List.mem_append_right _ hq)
    k_with "call ref" => guard_hyp tg9 : Mine.Tg 9732; ((with_reducible show wpAny _ _ (call (Value.ref 626) _) _ _ _); refine Halt.out ?_)
    k_steps
    unfold Halt
    have hofU : Off [(D3, listOf ys.toArray ys.length)] [(Ix, listOf vs.toArray xn)] := off_cons (fun q hq => by cases List.mem_singleton.mp hq; exact Ne.symm oD) (fun _ h => nomatch h)
    (((k_dflt (refine (useM hofU (unique_ok w D3 ys (os.map fun o => o.getD (Str.ofString "NA")) _ sep ts hns hnl hnx hsl)) (by k_asm) (by k_asm) (by k_asm) (by k_asm) (by k_asm) (by first | exact rfl | assumption) (by ktr_room) (by ktr_units) (by first | exact True.intro | assumption) (by first | exact fun _ h => h | kqd_sub) ?_)); intro v9 p9 h9 tk9 F9 N9 O9 P9))
    (first | (refine hideW ?_; intro gG9; obtain ⟨Du, vu, nu, fr, fo, zq1, zq2, hfo, hmk⟩ := P9; refine (?_ : wpAny _ _ _ _ _ _); clear gG9; (first | subst zq1 | cases zq1); (first | subst zq2 | cases zq2)) | obtain ⟨Du, vu, nu, fr, fo, rfl, rfl, hfo, hmk⟩ := P9)
    dsimp only [List.cons_append, List.nil_append] at N9
    have hul : vu.length ≤ 7 := by rw [hfo.1, List.length_map, hmk.len.2, List.length_map]; exact hl
    rw [List.length_map] at hmk
    k_with "call type:list cons nil" => guard_hyp tg9 : Mine.Tg 9732; (k_dflt (refine' kup_listOf (zs := vu) (its2 := vu.toArray) ?F ?N ?b (List.toList_toArray) ?_ ?z; (case F => k_asm); (case N => k_asm); (case b => k_mem); (case z => rw [sizeLine_eq, List.toList_toArray]; (exact Nat.le_trans (by with_reducible assumption) (Nat.le_of_ble_eq_true rfl)))); intro D5 c5 h5 F5 N5 l5; (try k_lt l5))
    k_with "call ref" => guard_hyp tg9 : Mine.Tg 9732; ((((with_reducible show wpAny _ _ (call (Value.ref 237) _) _ _ _); (k_dflt (refine useV (by k_asm) (by k_asm) (by k_asm) (by k_asm) (by k_asm) (by first | exact rfl | assumption) (by ktr_room) (by ktr_units) ?_)); intro _ _ _ _ _ _ _ _ _ _ _ _ _)))
    k_steps
    exact Out.intro (by assumption) (by assumption) [(_, instObj 237 _), (_, dictOf (vecEs w _ _ _ _ _ (Str.ofString "character") _ (.ref D5)) 5), (D5, listOf vu.toArray c5), (Ix, listOf vs.toArray xn)] (by kqd_sub) (VecR.intro ⟨fr, fo, rfl, hfo, hmk⟩)
theorem buniqG (w : World) (A U1 U2 Vx dX Ix Vs dS Is : Addr) (k2 n x1 x2 x3 x4 x5 xk xn s1 s2 s3 s4 s5 sk sn ts : Nat) (sep : Str) (vs : List Value) (os : List (Option Str)) (hv : OSAre vs os) (hl : os.length ≤ 7)
    (hx : ∀ x, some x ∈ os → x.length ≤ 40) (hsl : sep.length ≤ 2) (ho : Chain [Ix, dX, Vx, U1, Is, dS, Vs, U2, A]) :
  CallsOk w 667 [.none, .ref A, .none] 60 4000 ([(A, listOf #[.ref U1, .ref U2] n), (U2, tup [.str (Str.ofString "sep") k2, .ref Vs]), (U1, tup [.none, .ref Vx]),
      (Vx, instObj 237 dX), (dX, dictOf (vecEs w x1 x2 x3 x4 x5 (Str.ofString "character") xk (.ref Ix)) 5), (Ix, listOf vs.toArray xn),
      (Vs, instObj 237 dS), (dS, dictOf (vecEs w s1 s2 s3 s4 s5 (Str.ofString "character") sk (.ref Is)) 5), (Is, listOf #[.str sep ts] sn)]) (fun _ => True)
    (VecR w (Str.ofString "character") fun ys tl => ∃ fr fo, tl = [(Ix, listOf vs.toArray xn)] ∧ OSAre ys (fo.map some) ∧ MkU (os.map fun o => o.getD (Str.ofString "NA")) sep os.length fr fo) := by
  have hS : Desc [A, U2, Vs, dS, Is, U1, Vx, dX, Ix] := desc_of ho
  refine (buniqN w A Vx dX Ix [(U1, .none, .ref Vx), (U2, .str (Str.ofString "sep") k2, .ref Vs)] n x1 x2 x3 x4 x5 xk xn sep (.ref Vs) (vecL w Vs dS Is s1 s2 s3 s4 s5 sk sn (Str.ofString "character") [.str sep ts]) vs os hv hl hx hsl tkG (fun ta tc => (one_ok w Vs dS Is s1 s2 s3 s4 s5 sk sn sep (Str.ofString "sep") (Str.ofString ".") ts ta tc).weak fun _ _ h => ⟨_, h.1⟩) ?_ (by k_extra "off")).sub (by kqd_sub)
  show Off [(A, _), (U1, _), (U2, _)] (_ :: _ :: _ :: _ :: _ :: _ :: [])
  k_extra "off"
theorem buniqH (w : World) (A U1 Vx dX Ix : Addr) (n x1 x2 x3 x4 x5 xk xn : Nat) (vs : List Value) (os : List (Option Str)) (hv : OSAre vs os) (hl : os.length ≤ 7)
    (hx : ∀ x, some x ∈ os → x.length ≤ 40) (ho : Chain [Ix, dX, Vx, U1, A]) :
  CallsOk w 667 [.none, .ref A, .none] 60 4000 ([(A, listOf #[.ref U1] n), (U1, tup [.none, .ref Vx]),
      (Vx, instObj 237 dX), (dX, dictOf (vecEs w x1 x2 x3 x4 x5 (Str.ofString "character") xk (.ref Ix)) 5), (Ix, listOf vs.toArray xn)]) (fun _ => True)
    (VecR w (Str.ofString "character") fun ys tl => ∃ fr fo, tl = [(Ix, listOf vs.toArray xn)] ∧ OSAre ys (fo.map some) ∧ MkU (os.map fun o => o.getD (Str.ofString "NA")) (Str.ofString ".") os.length fr fo) := by
  have hS : Desc [A, U1, Vx, dX, Ix] := desc_of ho
  refine (buniqN w A Vx dX Ix [(U1, .none, .ref Vx)] n x1 x2 x3 x4 x5 xk xn (Str.ofString ".") .none [] vs os hv hl hx (by decide) tkH (fun ta tc => oneNone_ok w (Str.ofString "sep") (Str.ofString ".") ta tc) ?_ (by k_extra "off")).sub (by kqd_sub)
  show Off [(A, _), (U1, _)] (_ :: _ :: _ :: [])
  k_extra "off"

end

section
-- part Exc
/-! an exception of the project's own class, made by its own __init__, in flight with its attributes, caught and read -/
noncomputable abbrev excO (C t : Addr) (d : Option Addr) : Obj := { cls := .ref C, dict := d, data := .fields #[.ref t, .none, .none, .none, .bool false, .none] }

section
variable {prog : Program} {w : World} {A : Around} {E : Value → Shared → Prop} {s : Shared} {K : Frag} {x C : Addr} {ox : Obj} {od : Option Obj} {name : Str} {expr : Bool} {Q : Value → Shared → Prop}
set_option maxHeartbeats 4000000 in
set_option maxRecDepth 100000 in
theorem exc_get {v : Value} (X : K.In s.heap) (I : InstAt s.heap x ox C od)
    (hga : findIn K (.ref C) "__getattribute__" = some (some (.builtin "BaseException.__getattribute__")))
    (hgt : findIn K (.ref C) "__getattr__" = some none) (hsub : mroIn K C (.type "BaseException") = some true)
    (hf : findObj K C od name = some (.value v)) (hh : handedIn v = true) (h : Q v { s with toks := s.toks + 1 }) :
    wpAny (model prog w) A (getAttr (.ref x) name expr) Q E s := by
  obtain ⟨hh', g, d, t, os⟩ := s
  have L0 := I.type (M := model prog w)
  have L1 := looks_findIn (M := model prog w) X hga
  have L2 := looks_findIn (M := model prog w) X hgt
  have L3 := looks_find (M := model prog w) X I hf
  have L4 : Looks (model prog w) hh' (isInstance (.ref x) (.type "BaseException")) true := L0.andThen (looks_mroIn X hsub)
  have f3 := PySem.F.attr_Exception.ga.bind (.ref x)
  have hx0 : (expr && onTheHeap (Value.builtin "BaseException.__getattribute__")) = false := by cases expr <;> rfl
  have hk : builtinKind "BaseException.__getattribute__" = some .slot := by decide +kernel
  have hsplit : splitId "BaseException.__getattribute__" = some ("BaseException", "__getattribute__") := by decide +kernel
  unfold getAttr getAttrBy
  refine wpAny_bind (wpAny_mkText (wpAny_holding (wpAny_bind (L0.at (wpAny_bind (L1.at ?_))))))
  show wpAny _ _ (getAttrByItsOwn _ _ _ _ _ _) _ _ _
  unfold getAttrByItsOwn
  refine wpAny_bind ?_
  show wpAny _ _ (typeLookup _ _) _ _ _
  refine L2.at ?_
  refine wpAny_bind (wpAny_attempt (wpAny_holding ?_))
  unfold callGetattribute
  rw [hx0]
  simp only [Bool.false_eq_true, if_false]
  unfold boundAndCalled
  rw [f3]
  refine wpAny_bind (wpAny_pure ?_)
  refine wpAny_call (codeAny_call_builtin PySem.F.attr_Exception.ga.plain PySem.F.entry_bexc_ga (@check_slot (model prog w) _ _ ⟨hh', g, d, t + 1, os⟩ "BaseException.__getattribute__" "BaseException" "__getattribute__" (.ref x) [.str name t] [] _ hk hsplit L4 (PySem.F.args_bexc_ga (.ref x) (.str name t)) ?_))
  unfold Builtin.«object.__getattribute__»
  refine wpAny_bind (wpAny_pure (wpAny_bind (wpAny_pure (wpAny_bind (L0.at (wpAny_bind (L3.at ?_)))))))
  refine wpAny_pure ?_
  show wpAny _ _ (handedOut v) _ _ _
  rw [handedOut_of hh]
  exact wpAny_pure h
end

noncomputable def excMro : List Value → Bool
  | .ref _ :: r => excMro r
  | l => l == [.type "Exception", .type "BaseException", .type "object"]
theorem refuse_excMro (self : Value) : ∀ {l : List Value}, excMro l = true → refuseLoop self "__setattr__" l = pure ()
  | .ref c :: r, e => by rw [refuseLoop_ref]; exact refuse_excMro self (by unfold excMro at e; exact e)
  | [], e => by simp [excMro] at e
  | .none :: _, e => by simp [excMro] at e
  | .bool _ :: _, e => by simp [excMro] at e
  | .int _ _ :: _, e => by simp [excMro] at e
  | .float _ _ :: _, e => by simp [excMro] at e
  | .str _ _ :: _, e => by simp [excMro] at e
  | .type n :: r, e => by
    have h : (Value.type n :: r) = [.type "Exception", .type "BaseException", .type "object"] := by simpa [excMro] using e
    rw [h]; exact PySem.F.store_Exception.passes self
  | .builtin _ :: _, e => by simp [excMro] at e

section
variable {prog : Program} {w : World} {A : Around} {K : Frag} {C x : Addr} {s : Shared} {h₀ : Heap} {L : Addr} {m : Str → Option Value} {R : Result → Shared → Prop}
open Builtin Builtin.ObjectAttr in
set_option maxHeartbeats 4000000 in
set_option maxRecDepth 100000 in
theorem exc_store {t : Addr} {name : Str} {tk : Tok} {v : Value} {post : List (Addr × Obj)} {od' : Obj} {es : List DictEntry} {n : Nat}
    (F : Fr h₀ L s.heap m) (N : News h₀ L s.heap ((x, excO C t none) :: post)) (X : K.In s.heap) (hm : (clsIn K C).any (fun cd => excMro cd.mro && cd.hasDict) = true) (ht : takerIn K C name = some none)
    (hob : mroIn K C (.type "object") = some true) (h2 : ∀ p ∈ post, p.1 ≠ x)
    (e : Obj.putName name (PyData.keyHash w.params name) (.str name s.toks) v emptyDict = od') (e' : od'.data = .dict es.toArray n) (hz : es.length ≤ 1000)
    (h : ∀ dx h', Fr h₀ L h' m → News h₀ L h' ((dx, od') :: (x, excO C t (some dx)) :: post) → (∀ p ∈ post, @LT.lt Nat _ p.1 dx) → @LT.lt Nat _ x dx → R (.ok (.ret .none)) { s with heap := h', toks := s.toks + 1 }) :
    codeAny (model prog w) A (.call (.builtin "object.__setattr__") ⟨[.ref x, .str name tk, v], []⟩) R s := by
  have SF := PySem.F.store_object
  obtain ⟨cd, hc, ho⟩ := any_some hm
  obtain ⟨ho, hd⟩ := Bool.and_eq_true_iff.mp ho
  have I : InstAt s.heap x (excO C t none) C none := ⟨(N _ (.head _)).1, rfl, rfl, trivial⟩
  have L0 := I.type (M := model prog w)
  have sub : Looks (model prog w) s.heap (isInstance (.ref x) (.type "object")) true := L0.andThen (looks_mroIn X hob)
  refine codeAny_call_builtin SF.slot.plain SF.entry (@check_slot (model prog w) _ _ s "object.__setattr__" "object" "__setattr__" (.ref x) [.str name tk, v] [] _ SF.kind SF.split sub (SF.args (.ref x) (.str name tk) v) ?_)
  obtain ⟨attr, ha, hr⟩ := Option.bind_eq_some_iff.mp ht
  have hmr : Looks (model prog w) s.heap (mroOf (.ref C)) cd.mro := (looks_clsIn X hc).andThen .now
  have L3 : Looks (model prog w) s.heap (storeTaker? attr) none := by
    cases attr with
    | none => exact .now
    | some a =>
      obtain ⟨b, hb, q⟩ := Option.map_eq_some_iff.mp hr
      refine (looks_takesIn X hb).andThen ?_
      cases b
      · exact .now
      · cases q
  rw [osa_eq, refuse_eq]
  refine wpAny_bind (wpAny_bind (L0.here (wpAny_bind (hmr.here ?_))))
  rw [refuse_excMro _ ho]
  refine wpAny_pure (wpAny_bind (L0.here (wpAny_bind ((looks_findIn X ha).here (wpAny_bind (L3.here ?_))))))
  show wpAny _ _ (storeInOwnDict _ _ _ _ _ _) _ _ _
  unfold storeInOwnDict
  have hx := (N _ (.head _)).1
  obtain ⟨hh, g, d, tk', os⟩ := s
  refine wpAny_bind (wpAny_pure (wpAny_bind ?_))
  show wpAny _ _ (instanceDict x true) _ _ _
  unfold instanceDict
  refine wpAny_bind (wpAny_loadPart hx (wpAny_bind ((looks_clsIn X hc).here ?_)))
  rw [hd]
  dsimp only [excO, typeHasDict]
  simp only [Bool.not_true, Bool.false_eq_true, if_false, Bool.or_false]
  dsimp only at hx F N e e'
  have N1 : News h₀ L (hh.push emptyDict) ([(hh.objs.size, emptyDict)] ++ (x, excO C t none) :: post) := N.push F emptyDict
  have hlt : ∀ p ∈ (x, excO C t none) :: post, @LT.lt Nat _ p.1 hh.objs.size := fun p hp => Heap.lt_size (N p hp).1
  obtain ⟨F2, N2⟩ := news_upd (f := fun o => { o with dict := some hh.objs.size }) (o' := excO C t (some hh.objs.size)) (F.push emptyDict) N1
    (fun p hp => by rw [List.mem_singleton.mp hp]; exact Nat.ne_of_gt (hlt _ (.head _))) h2 rfl rfl
  obtain ⟨F3, N3⟩ := news_upd (pre := []) (f := Obj.putName name (PyData.keyHash w.params name) (.str name tk') v) (o' := od') F2 N2 (fun _ h => nomatch h)
    (fun p hp => by
      rcases List.mem_cons.mp hp with rfl | hp
      · exact Nat.ne_of_lt (hlt (x, excO C t none) (.head _))
      · exact Nat.ne_of_lt (hlt _ (.tail _ hp))) e (by obtain ⟨_, _, dd, _⟩ := od'; cases e'; rfl)
  have D := (N2 _ (.head _)).1
  have D' := (N3 _ (.head _)).1
  refine wpAny_bind (wpAny_alloc (wpAny_bind (wpAny_update (Heap.get?_push_of_some _ hx) ?_)))
  refine wpAny_pure (a := some hh.objs.size) ?_
  show wpAny _ _ (storeInDict hh.objs.size (.str name tk) name v) _ _ _
  unfold storeInDict
  refine wpAny_bind (wpAny_pure (wpAny_bind ?_))
  unfold nsSet
  refine wpAny_bind (wpAny_bind (wpAny_askSetting (wpAny_pure (wpAny_bind (wpAny_mkText (wpAny_bind (wpAny_loadPart D ?_)))))))
  dsimp only
  rw [aRefKeyMayBeTheName_at]
  rw [if_neg (by simp)]
  refine wpAny_updatePart D ?_
  refine wpAny_bind (wpAny_lookBehind D' (by rw [e']; exact pastItsLine_dict (by rw [List.size_toArray, sizeLine_eq]; (exact Nat.le_trans (by with_reducible assumption) (Nat.le_of_ble_eq_true rfl)))) ?_)
  exact wpAny_pure (h _ _ F3 N3 (fun p hp => hlt p (.tail _ hp)) (hlt _ (.head _)))
end

section
variable {prog : Program} {w : World} {A : Around} {K : Frag} {C x : Addr} {s : Shared} {h₀ : Heap} {L : Addr} {m : Str → Option Value} {E : Value → Shared → Prop}
theorem exc_setAttr {t : Addr} {name : Str} {v : Value} {post : List (Addr × Obj)} {od' : Tok → Obj} {es : Tok → List DictEntry} {n : Nat} {Q : Unit → Shared → Prop}
    (F : Fr h₀ L s.heap m) (N : News h₀ L s.heap ((x, excO C t none) :: post)) (X : K.In s.heap) (hm : (clsIn K C).any (fun cd => excMro cd.mro && cd.hasDict) = true) (ht : takerIn K C name = some none)
    (hs : findIn K (.ref C) "__setattr__" = some (some (.builtin "object.__setattr__"))) (hob : mroIn K C (.type "object") = some true) (h2 : ∀ p ∈ post, p.1 ≠ x)
    (e : ∀ tk, Obj.putName name (PyData.keyHash w.params name) (.str name tk) v emptyDict = od' tk) (e' : ∀ tk, (od' tk).data = .dict (es tk).toArray n) (hz : ∀ tk, (es tk).length ≤ 1000)
    (h : ∀ tk dx h' tk', Fr h₀ L h' m → News h₀ L h' ((dx, od' tk) :: (x, excO C t (some dx)) :: post) → (∀ p ∈ post, @LT.lt Nat _ p.1 dx) → @LT.lt Nat _ x dx → Q () { s with heap := h', toks := tk' }) :
    wpAny (model prog w) A (setAttr (.ref x) name v) Q E s := by
  have I : InstAt s.heap x (excO C t none) C none := ⟨(N _ (.head _)).1, rfl, rfl, trivial⟩
  refine set_plain X I hs ?_
  exact exc_store (s := { s with toks := s.toks + 1 }) F N X hm ht hob h2 (e _) (e' _) (hz _) fun dx h' F' N' l1 l2 => h _ dx h' _ F' N' l1 l2
end

section
variable {prog : Program} {w : World} {A : Around} {E : Value → Shared → Prop} {h : Heap} {g : Array GenState} {d : Drawn} {t : Nat} {os : OsState}
variable {nm q : Str} {C N : Addr} {bs bm bmB : List Value} {hdct : Bool} {sn : List Str} {sub : List Value} {ab : Bool} {col : Option Bool} {dd : Option Addr} {k0 k1 k2 k3 k5 : Option Value} {B newId initId : String}
set_option maxHeartbeats 4000000 in
set_option maxRecDepth 100000 in
theorem exc_make (F : ExcBaseFacts B newId initId bmB) (T : OwnTail h bmB bm) {K : Frag} (X : K.In h) {rest : List Value} {fI : Addr} {Q : Value → Shared → Prop}
    (hC : h.get? C = some (excClassObj nm q C N bs bm hdct sn sub ab col dd k0 k1 k2 k3 k5 newId)) (hi : findIn K (.ref C) "__init__" = some (some (.ref fI))) (hf : typeIn K (.ref fI) = some (.type "function"))
    (hq : wpAny (model prog w) (A.under (.builtin "type.__call__" ⟨.ref C :: rest, []⟩)) (call (.ref fI) (.ref (h.objs.size + 1) :: rest)) (fun r s' => r = .none ∧ Q (.ref (h.objs.size + 1)) s') E
      ⟨(h.push { cls := .type "tuple", data := .seq rest.toArray }).push (excO C h.objs.size none), g, d, t, os⟩) (hrest : rest.length ≤ sizeLine := by size_fits) :
    wpAny (model prog w) A (call (.ref C) rest) Q E ⟨h, g, d, t, os⟩ := by
  have f1 := tc_lookup
  have f2 := tc_bind (.ref C)
  have hT : (⟨h, g, d, t, os⟩ : Shared).TypeIs (.ref C) "type" := ⟨_, hC, rfl⟩
  refine wpAny_call (codeAny_of_tree ?_)
  show wpAny _ _ (callAny (.ref C) _) _ _ _
  repeat (any_goals (first | assumption | with_reducible refine wpAny_loadPart_at hC ?_ | wp_step))
  refine ⟨rfl, ?_⟩
  refine codeAny_call_builtin_at (Code.quiet_builtin _ (by decide +kernel)) entry_typeCall (wpAny_check_type_call_sub hC ?_)
  show wpAny (model prog w) (A.under (.builtin "type.__call__" ⟨.ref C :: rest, []⟩)) (Builtin.«type.__call__» ⟨.ref C :: rest, []⟩) _ _ _
  repeat (first | with_reducible refine wpAny_loadPart_at hC ?_ | with_reducible refine wpAny_madeBy_exc hC ?_ | wp_step)
  refine codeAny_call_builtin_code (Code.quiet_builtin _ F.quiet) (wpAny_check_new_subT F T hC ?_)
  refine codeAny_exc_new_subT F T hC ?_ hrest
  show wpAny _ _ _ _ _ _
  have kp : ∀ b o, h.get? b = some o → ((h.push { cls := .type "tuple", data := .seq rest.toArray }).push (excO C h.objs.size none)).get? b = some o := fun b o e => Heap.get?_push_of_some _ (Heap.get?_push_of_some _ e)
  have X₁ := X.keeps kp
  have hC₁ := kp _ _ hC
  have hget : ((h.push { cls := .type "tuple", data := .seq rest.toArray }).push { cls := .ref C, data := .fields #[.ref h.objs.size, .none, .none, .none, .bool false, .none] }).get? (h.objs.size + 1) = some { cls := .ref C, data := .fields #[.ref h.objs.size, .none, .none, .none, .bool false, .none] } := by heap_get
  have hcC : (Value.ref C :: bm).contains (.ref C) = true := by simp
  have L1 := looks_findIn (M := model prog w) X₁ hi
  have L2 := bind_fn (M := model prog w) X₁ (f := fI) (.ref (h.objs.size + 1)) hf
  unfold isInstance
  repeat (first | with_reducible refine wpAny_loadPart_at hget ?_ | (with_reducible refine wpAny_isSubtype_exc hC₁ ?_; rw [hcC]) | wp_step)
  show wpAny _ _ (typeLookup (.ref C) _) _ _ _
  refine L1.at ?_
  refine wpAny_holding (wpAny_bind ?_)
  refine L2.at ?_
  refine wpAny_bind (wpAny_mono hq (fun r s' hr => ?_) fun _ _ x => x)
  obtain ⟨rfl, hQ⟩ := hr
  wp_walk
  exact hQ
end

section
variable {M : Model} {A : Around} {E : Value → Shared → Prop} {env : Env}
variable {nm q : Str} {C N : Addr} {bs bm : List Value} {hdct : Bool} {sn : List Str} {sub : List Value} {ab : Bool} {col : Option Bool} {dd : Option Addr} {k0 k1 k2 k3 k5 : Option Value} {newId : String}
/-- what a raise of such an exception asks of the tree that makes it -/
noncomputable def ExcMade (C : Addr) (oC : Obj) (E : Value → Shared → Prop) (v : Value) (s₁ : Shared) : Prop :=
  ∃ e t d, v = .ref e ∧ s₁.heap.get? C = some oC ∧ s₁.heap.get? e = some (excO C t d) ∧ E (.ref e) s₁
theorem exc_raiseStmt {s : Shared} {x : Sem Value} {Q : Flow → Shared → Prop} (hbase : bm.contains (.type "BaseException") = true) (hh : A.handled = none)
    (h : wpAny M A x (ExcMade C (excClassObj nm q C N bs bm hdct sn sub ab col dd k0 k1 k2 k3 k5 newId) E) E s) :
    wpAny M A (raiseStmt env (some x) none) Q E s := by
  have hcB : (Value.ref C :: bm).contains (.type "BaseException") = true := by rw [List.contains_cons, hbase, Bool.or_true]
  unfold raiseStmt
  refine wpAny_bind (wpAny_mono h (fun v s₁ h₁ => ?_) fun _ _ x => x)
  obtain ⟨e, t, dx, rfl, hC, he, hE⟩ := h₁
  obtain ⟨hp, g, d, tk, os⟩ := s₁
  repeat (first | with_reducible refine wpAny_loadPart_at he ?_ | with_reducible refine wpAny_loadPart_at hC ?_ | (with_reducible refine wpAny_isSubtype_exc hC ?_; rw [hcB]) | wp_step)
  exact wpAny_raiseNew_none hh hE
theorem exc_Raise {s : Shared} {x : Expr} {pos : Pos} {Q : Flow → Shared → Prop} (hbase : bm.contains (.type "BaseException") = true) (hh : A.handled = none)
    (h : wpAny M A (eval x env) (ExcMade C (excClassObj nm q C N bs bm hdct sn sub ab col dd k0 k1 k2 k3 k5 newId) E) E s) :
    wpAny M A (exec (.Raise (some x) none pos) env) Q E s := by
  rw [arm_exec_Raise]
  refine wpAny_bind (wpAny_standAt ?_)
  refine exc_raiseStmt hbase hh (wpAny_bind (wpAny_mono h (fun v s₁ h₁ => wpAny_bind (wpAny_standAt (wpAny_pure h₁))) fun _ _ x => x))
end

end

section
-- part Fly
/-! an exception in flight, its own dict kept in sight -/
noncomputable def FlyAt (h base : Heap) (e : Addr) (cls : Value) (dx : Option Addr) (fl : Value) : Prop :=
  ∃ vs sl T oT ts, h.get? e = some ⟨cls, dx, .fields vs, sl⟩ ∧ vs[1]? = some (.ref T) ∧ base.get? T = none ∧ T ≠ e ∧ h.get? T = some oT ∧ oT.data = .fields ts ∧ ts[3]? = some fl
/-- in flight above `base` through the frames `l`, last noted at frame `fl` -/
noncomputable def FlyD (base : Heap) (l : List Env) (e : Addr) (cls : Value) (dx : Option Addr) (fl : Value) (h : Heap) : Prop :=
  base.StaysIn h ∧ base.get? e = none ∧ h.FunFrames base l ∧ FlyAt h base e cls dx fl
theorem FlyD.outer {base h : Heap} {env : Env} {l : List Env} {e : Addr} {cls fl : Value} {dx : Option Addr} (x : FlyD base (env :: l) e cls dx fl h) : FlyD base l e cls dx fl h := by
  obtain ⟨a, b, ⟨_, _, c⟩, d⟩ := x
  exact ⟨a, b, c, d⟩

section
variable {M : Model} {A : Around} {E : Value → Shared → Prop} {s : Shared} {base : Heap} {env : Env} {outer : List Env} {L e : Addr} {cls : Value} {dx : Option Addr} {vs : Array Value} {sl : Array (Option Value)}
theorem upd_flds (h : Heap) {a : Addr} {c : Value} {d : Option Addr} {vs : Array Value} {sl : Array (Option Value)} (f : Array Value → Array Value) (ha : h.get? a = some ⟨c, d, .fields vs, sl⟩) :
    (h.update a (Obj.mapFields f)).get? a = some ⟨c, d, .fields (f vs), sl⟩ := Heap.get?_update_self (Obj.mapFields f) ha rfl
theorem entryD {head : Value} {hadNext : Bool} {Q : Unit → Shared → Prop} (hfr : A.frames = some (env :: outer)) (hl : s.heap.FunFrames base (env :: outer)) (hf : env.frame = some L)
    (he : s.heap.get? e = some ⟨cls, dx, .fields vs, sl⟩) (hkb : base.StaysIn s.heap) (hen : base.get? e = none) (hsz : 1 < vs.size)
    (h : ∀ h', FlyD base (env :: outer) e cls dx (rawInt L) h' → s.heap.UpToSlots h' → Q () { s with heap := h' }) :
    wpAny M A (do let a ← frameOf env; let pl ← entryPlaceOf L hadNext; let b ← EntryCells.newEntry head a .none (rawInt L) .none pl; setField (.ref e) 1 b) Q E s := by
  have nrec : ∀ b o, s.heap.get? b = some o → (∀ ws, o.data ≠ .fields ws) → b ≠ e := fun b o hb hn q => by
    rw [q, he] at hb; cases hb; exact hn vs rfl
  have hene : e ∉ (env :: outer).filterMap (·.frame) := fun hm => by
    obtain ⟨_, o, ho, hn⟩ := hl.mem hm
    exact nrec e o ho hn rfl
  refine wpAny_bind (wpAny_frameOf_fun hfr hl hf fun h₁ hs₁ => wpAny_bind (wpAny_entryPlaceOf fun pl hpl => ?_))
  obtain ⟨-, hs2, hs3⟩ := hs₁
  unfold EntryCells.newEntry newFields
  refine wpAny_bind (wpAny_newObj_type ?_ (hpl.sizeOk5 _ _ _ _ _))
  generalize hts : ([head, .ref L, .none, rawInt L, .none] ++ (if pl.isEmpty then List.replicate 6 Value.none else pl)).toArray = ts
  have h3 : ts[3]? = some (rawInt L) := by subst hts; simp
  have he₁ : h₁.get? e = some ⟨cls, dx, .fields vs, sl⟩ := (hs2 e hene).trans he
  have hT : (h₁.push { cls := .type "traceback", dict := none, data := .fields ts }).get? h₁.objs.size = some { cls := .type "traceback", dict := none, data := .fields ts } := Heap.get?_push_size h₁ rfl
  have he₂ := Heap.get?_push_of_some { cls := .type "traceback", dict := none, data := .fields ts } he₁
  have hTe : h₁.objs.size ≠ e := Nat.ne_of_gt (Heap.lt_size he₁)
  have keep : ∀ b o, b ≠ e → h₁.get? b = some o → ((h₁.push { cls := .type "traceback", dict := none, data := .fields ts }).update e (Obj.mapFields (·.setIfInBounds 1 (Value.ref h₁.objs.size)))).get? b = some o :=
    fun b o hbe hb => (Heap.get?_update_other _ _ (Ne.symm hbe)).trans (Heap.get?_push_of_some _ hb)
  have inB : ∀ b, b ∈ (env :: outer).filterMap (·.frame) → base.get? b = none := fun b hm => (hl.mem hm).1
  refine wpAny_setField he₂ rfl hsz (h _ ⟨fun b o hb => keep b o (fun q => by rw [q, hen] at hb; cases hb) ((hs2 b fun hm => by rw [inB b hm] at hb; cases hb).trans (hkb b o hb)), hen,
    hl.of_keeps fun b o hb hn => ?_, vs.setIfInBounds 1 (.ref h₁.objs.size), sl, h₁.objs.size, _, ts, upd_flds _ _ he₂, by simp [hsz], ?_, hTe, (Heap.get?_update_other _ _ hTe.symm).trans hT, rfl, h3⟩ fun b o hb hn => ?_)
  · obtain ⟨s', hs'⟩ := hs3 b o hb
    exact ⟨_, keep b _ (nrec b o hb hn) hs', rfl⟩
  · cases q : base.get? h₁.objs.size with
    | none => rfl
    | some o =>
      have := (hs2 _ fun hm => by rw [inB _ hm] at q; cases q).trans (hkb _ _ q)
      exact absurd (Heap.lt_size this) (Nat.lt_irrefl _)
  · obtain ⟨s', hs'⟩ := hs3 b o hb
    exact ⟨s', keep b _ (nrec b o hb hn) hs'⟩

/-- noted at a frame: the exception just made -/
theorem note0 {Q : Unit → Shared → Prop} (hfr : A.frames = some (env :: outer)) (hl : s.heap.FunFrames base (env :: outer)) (hf : env.frame = some L)
    (he : s.heap.get? e = some ⟨cls, dx, .fields vs, sl⟩) (h1 : vs[1]? = some .none) (hkb : base.StaysIn s.heap) (hen : base.get? e = none)
    (h : ∀ h', FlyD base (env :: outer) e cls dx (rawInt L) h' → s.heap.UpToSlots h' → Q () { s with heap := h' }) : wpAny M A (noteFrame (.ref e) env) Q E s := by
  unfold noteFrame
  simp only [hf]
  refine wpAny_bind (wpAny_field he rfl h1 ?_)
  rw [if_neg (by decide)]
  exact entryD hfr hl hf he hkb hen (Array.getElem?_eq_some_iff.mp h1).1 h
/-- noted at a frame: one in flight -/
theorem noteD {Q : Unit → Shared → Prop} (hfr : A.frames = some (env :: outer)) (hf : env.frame = some L) (x : FlyD base (env :: outer) e cls dx .none s.heap)
    (h : ∀ h', FlyD base (env :: outer) e cls dx (rawInt L) h' → s.heap.UpToSlots h' → Q () { s with heap := h' }) : wpAny M A (noteFrame (.ref e) env) Q E s := by
  obtain ⟨hkb, hen, hl, vs, sl, T, oT, ts, he, h1, hTb, hTe, hT, hTd, h3⟩ := x
  unfold noteFrame
  simp only [hf]
  refine wpAny_bind (wpAny_field he rfl h1 ?_)
  rw [if_pos (show (Value.ref T != Value.none) = true from by simp)]
  refine wpAny_bind (wpAny_field hT hTd h3 ?_)
  rw [if_neg (show ¬ ((Value.none == rawInt L) = true) from by simp [rawInt])]
  refine wpAny_bind (wpAny_setField hT hTd (Array.getElem?_eq_some_iff.mp h3).1 ?_)
  have other : ∀ b o, b ≠ T → s.heap.get? b = some o → (s.heap.update T (Obj.mapFields (·.setIfInBounds 3 Value.none))).get? b = some o := fun b o hb q => (Heap.get?_update_other _ _ (Ne.symm hb)).trans q
  have nrec : ∀ b o, s.heap.get? b = some o → (∀ ws, o.data ≠ .fields ws) → b ≠ T := fun b o hb hn q => by
    rw [q, hT] at hb; cases hb; exact hn ts hTd
  exact entryD hfr (hl.of_keeps fun b o hb hn => ⟨o, other b o (nrec b o hb hn) hb, rfl⟩) hf (other e _ hTe.symm he)
    (fun b o hb => other b o (fun q => by rw [q, hTb] at hb; cases hb) (hkb b o hb)) hen (Array.getElem?_eq_some_iff.mp h1).1
    fun h' x4 x5 => h h' x4 fun b o hb hn => x5 b o (other b o (nrec b o hb hn) hb) hn
/-- noted once more at the frame where it was noted -/
theorem noteAgain {Q : Unit → Shared → Prop} {l : List Env} (hf : env.frame = some L) (x : FlyD base l e cls dx (rawInt L) s.heap) (h : Q () s) : wpAny M A (noteFrame (.ref e) env) Q E s := by
  obtain ⟨_, _, _, vs, sl, T, oT, ts, he, h1, hTb, hTe, hT, hTd, h3⟩ := x
  unfold noteFrame
  simp only [hf]
  refine wpAny_bind (wpAny_field he rfl h1 ?_)
  rw [if_pos (show (Value.ref T != Value.none) = true from by simp)]
  refine wpAny_bind (wpAny_field hT hTd h3 ?_)
  rw [if_pos (show (rawInt L == rawInt L) = true from by simp)]
  exact wpAny_pure h
/-- the note let go -/
theorem letGo {fl : Value} {l : List Env} {Q : Unit → Shared → Prop} (x : FlyD base l e cls dx fl s.heap)
    (h : ∀ h', FlyD base l e cls dx .none h' → (∀ b o, s.heap.get? b = some o → (∀ ws, o.data ≠ .fields ws) → h'.get? b = some o) → Q () { s with heap := h' }) : wpAny M A (setFlight (.ref e) none) Q E s := by
  obtain ⟨hkb, hen, hl, vs, sl, T, oT, ts, he, h1, hTb, hTe, hT, hTd, h3⟩ := x
  have hsz : 3 < ts.size := (Array.getElem?_eq_some_iff.mp h3).1
  unfold setFlight
  refine wpAny_bind (wpAny_field he rfl h1 ?_)
  rw [if_pos (show (Value.ref T != Value.none) = true from by simp)]
  have other : ∀ b o, b ≠ T → s.heap.get? b = some o → (s.heap.update T (Obj.mapFields (·.setIfInBounds 3 ((none : Option Addr).elim Value.none fun f => rawInt f)))).get? b = some o := fun b o hb q => (Heap.get?_update_other _ _ (Ne.symm hb)).trans q
  have nrec : ∀ b o, s.heap.get? b = some o → (∀ ws, o.data ≠ .fields ws) → b ≠ T := fun b o hb hn q => by
    rw [q, hT] at hb; cases hb; exact hn ts hTd
  refine wpAny_setField hT hTd hsz (h _ ⟨fun b o hb => other b o (fun q => by rw [q, hTb] at hb; cases hb) (hkb b o hb), hen, hl.of_keeps fun b o hb hn => ⟨o, other b o (nrec b o hb hn) hb, rfl⟩,
    vs, sl, T, _, _, other e _ hTe.symm he, h1, hTb, hTe, Heap.get?_update_self _ hT (Obj.isFreed_of_fields (Obj.data_mapFields hTd _)), Obj.data_mapFields hTd _, by simp [hsz]⟩ fun b o hb hn => other b o (nrec b o hb hn) hb)

/-- a frame left: the first, and each next -/
theorem leave0 {Q : Unit → Shared → Prop} (hfr : A.frames = some (env :: outer)) (hl : s.heap.FunFrames base (env :: outer)) (hf : env.frame = some L)
    (he : s.heap.get? e = some ⟨cls, dx, .fields vs, sl⟩) (h1 : vs[1]? = some .none) (hkb : base.StaysIn s.heap) (hen : base.get? e = none)
    (h : ∀ h', FlyD base outer e cls dx .none h' → s.heap.UpToSlots h' → Q () { s with heap := h' }) : wpAny M A (leaving env (.ref e)) Q E s := by
  unfold leaving
  exact wpAny_bind (note0 hfr hl hf he h1 hkb hen fun h₁ x u => letGo x fun h₂ x₂ u₂ => h h₂ x₂.outer (u.trans fun b o hb hn => ⟨o.slots, u₂ b o hb hn⟩))
theorem leaveD {Q : Unit → Shared → Prop} (hfr : A.frames = some (env :: outer)) (hf : env.frame = some L) (x : FlyD base (env :: outer) e cls dx .none s.heap)
    (h : ∀ h', FlyD base outer e cls dx .none h' → s.heap.UpToSlots h' → Q () { s with heap := h' }) : wpAny M A (leaving env (.ref e)) Q E s := by
  unfold leaving
  exact wpAny_bind (noteD hfr hf x fun h₁ x u => letGo x fun h₂ x₂ u₂ => h h₂ x₂.outer (u.trans fun b o hb hn => ⟨o.slots, u₂ b o hb hn⟩))
/-- a frame left where it is noted already -/
theorem leaveHeld {Q : Unit → Shared → Prop} (hf : env.frame = some L) (x : FlyD base (env :: outer) e cls dx (rawInt L) s.heap)
    (h : ∀ h', FlyD base outer e cls dx .none h' → s.heap.UpToSlots h' → Q () { s with heap := h' }) : wpAny M A (leaving env (.ref e)) Q E s := by
  unfold leaving
  exact wpAny_bind (noteAgain hf x (letGo x fun h₂ x₂ u₂ => h h₂ x₂.outer fun b o hb hn => ⟨o.slots, u₂ b o hb hn⟩))
end

end

section
-- part Raise
/-! an exception of the project's own class on its way out: frame by frame -/
noncomputable def RaisedD (base G : Heap) (l : List Env) (e : Addr) (cls : Value) (D : Addr) (od : Obj) (h : Heap) : Prop :=
  ∃ B, base.StaysIn B ∧ (∀ b o, G.get? b = some o → b ∉ l.filterMap (·.frame) → B.get? b = some o) ∧ (B.get? D = some od ∧ G.get? D = none) ∧ G.get? e = none ∧ FlyD B l e cls (some D) .none h

theorem frames_mem {env : Env} {L b : Addr} {outer : List Env} (hf : env.frame = some L) (hm : b ∈ (env :: outer).filterMap (·.frame)) : b = L ∨ b ∈ outer.filterMap (·.frame) := by
  rw [List.filterMap_cons, hf] at hm
  exact List.mem_cons.mp hm

section
variable {M : Model} {A A₀ : Around} {E : Value → Shared → Prop} {s' : Shared} {base g g₂ : Heap} {env : Env} {outer : List Env} {L e C t D : Addr} {od : Obj} {m : Str → Option Value} {Q : Unit → Shared → Prop} {news : List (Addr × Obj)} {cls : Value}
theorem leave_raiseD (K : Below A₀ base outer g) (hA : A.frames = some (env :: outer)) (hf : env.frame = some L) (hk : env.scope.kind = .function) (F : Fr g L s'.heap m) (N : News g L s'.heap news)
    (he : (e, excO C t (some D)) ∈ news) (hD : (D, od) ∈ news) (hne : D ≠ e)
    (hQ : ∀ h', RaisedD base g outer e (.ref C) D od h' → g.UpToSlots h' → Q () { s' with heap := h' }) : wpAny M A (leaving env (.ref e)) Q E s' := by
  have K' := pushX K F hf hk
  generalize hfs : (env :: outer).filterMap (·.frame) = fs at *
  have hin : ∀ x ∈ (env :: outer), ∀ b, x.frame = some b → b ∈ e :: fs := fun x hx b hb => .tail _ (hfs ▸ List.mem_filterMap.mpr ⟨x, hx, hb⟩)
  have enf : ∀ q ∈ news, q.1 ∉ fs := fun q hq hm => by
    rw [← hfs] at hm
    rcases frames_mem hf hm with z | z
    · exact (N q hq).2.1 z
    · obtain ⟨o, ho, _⟩ := (K.frames.mem z).2
      rw [(N q hq).2.2] at ho; cases ho
  have sg : ∀ b o, g.get? b = some o → b ∉ outer.filterMap (·.frame) → (hideAll s'.heap (e :: fs)).get? b = some o := fun b o q nm => hideAll_get _ (F.keep b o q) fun hm => by
    rcases List.mem_cons.mp hm with z | z
    · rw [z, (N _ he).2.2] at q; cases q
    · rw [← hfs] at z
      rcases frames_mem hf z with z | z
      · rw [z, kts_self F] at q; cases q
      · exact nm z
  have st : base.StaysIn (hideAll s'.heap (e :: fs)) := fun b o q => sg b o (K.stays b o q) fun hm => by
    rw [(K.frames.mem hm).1] at q; cases q
  refine leave0 (base := hideAll s'.heap (e :: fs)) hA (funFrames_hide K'.frames hin) hf (N _ he).1 rfl (fun b o q => of_hideAll _ q) (hideAll_none _ (.head _)) fun h' x u => hQ h' ⟨_, st, sg, ⟨hideAll_get _ (N _ hD).1 fun hm => ?_, (N _ hD).2.2⟩, (N _ he).2.2, x⟩ ((Heap.UpToSlots.of_keeps F.keep).trans u)
  rcases List.mem_cons.mp hm with z | z
  · exact hne z
  · exact enf _ hD z

theorem RaisedD.down (F : Fr g L g₂ m) (hf : env.frame = some L) {h : Heap} (R : RaisedD base g₂ (env :: outer) e cls D od s'.heap) (x : ∀ B, FlyD B (env :: outer) e cls (some D) .none s'.heap → FlyD B outer e cls (some D) .none h) : RaisedD base g outer e cls D od h := by
  obtain ⟨B, hB, hG, hd, he, hfl⟩ := R
  refine ⟨B, hB, fun b o q nm => hG b o (F.keep b o q) fun hm => ?_, ⟨hd.1, kts_none F.keep hd.2⟩, kts_none F.keep he, x B hfl⟩
  rcases frames_mem hf hm with z | z
  · rw [z, kts_self F] at q; cases q
  · exact nm z
theorem leave_onD (hA : A.frames = some (env :: outer)) (hf : env.frame = some L) (F : Fr g L g₂ m) (R : RaisedD base g₂ (env :: outer) e cls D od s'.heap) (hsm : g₂.UpToSlots s'.heap)
    (hQ : ∀ h', RaisedD base g outer e cls D od h' → g.UpToSlots h' → Q () { s' with heap := h' }) : wpAny M A (leaving env (.ref e)) Q E s' := by
  obtain ⟨B, hB, hG, hd, he, hfl⟩ := R
  refine leaveD hA hf hfl fun h' x u => hQ h' ⟨B, hB, fun b o q nm => hG b o (F.keep b o q) fun hm => ?_, ⟨hd.1, kts_none F.keep hd.2⟩, kts_none F.keep he, x⟩ ((Heap.UpToSlots.of_keeps F.keep).trans (hsm.trans u))
  rcases frames_mem hf hm with z | z
  · rw [z, kts_self F] at q; cases q
  · exact nm z
end

/-- the dict of a Refusal with its message -/
noncomputable abbrev msgO (w : World) (x : Str) (tm : Tok) (tk : Tok) : Obj := dictOf [⟨PyData.keyHash w.params (Str.ofString "message"), .str (Str.ofString "message") tk, .str x tm⟩] 1

/-- what a call of the text's def promises that raises Refusal(x), from any frame -/
noncomputable abbrev RaisesOk (w : World) (f : Addr) (vs : List Value) (dN uN : Nat) (pre : List (Addr × Obj)) (Hyp : Heap → Prop) (x : Str) : Prop :=
  ∀ (p : Program) (loose : List Str) (mean : ExcName → Option Value) (mg mb : Str → Option Value) (dp un : Nat) (gd : Option (List Code)) (cn : Str) (cs : Scope) (a : Addr) (ccd : Value) (cl : List (Str × Addr)) (outer : List Env) (A₀ : Around) (base h₀ : Heap) (L : Addr) (m : Str → Option Value) (rest : List (Addr × Obj)) (s : Shared) (Q E : Value → Shared → Prop),
    Below A₀ base outer h₀ → Fr h₀ L s.heap m → (Mine.hd.heap_39 w.params).In h₀ → News h₀ L s.heap (pre ++ rest) → Off pre rest → Top p loose mean mg mb h₀ → cs.kind = .function →
    dp + dN < recursionLimit → un + uN < cLine → Hyp s.heap →
    (∀ (e D : Addr) (tm tk : Tok) (G h' : Heap) (tk' : Nat), Fr h₀ L G m → (∀ q ∈ rest, G.get? q.1 = some q.2) → RaisedD base G (envX cn cs L a ccd cl :: outer) e (.ref 370) D (msgO w x tm tk) h' → G.UpToSlots h' → E (.ref e) { s with heap := h', toks := tk' }) →
      wpAny (model PySem.Challenge.rw_pq1336_01.row.prog w) (ktrTop dp un gd cn cs L a ccd cl outer) (call (.ref f) vs) Q E s

theorem stays_in {g H : Heap} {h₀ : Heap} {L : Addr} {pre rest : List (Addr × Obj)} (N : News h₀ L H (pre ++ rest)) (off : Off pre rest) (G : GSub H g (pre.map (·.1))) : ∀ q ∈ rest, g.get? q.1 = some q.2 := fun q hq =>
  G _ _ (N q (List.mem_append.mpr (.inr hq))).1 fun hm => by
    obtain ⟨r, hr, e⟩ := List.mem_map.mp hm
    exact off r hr q hq e

end

section
-- part Refuse
set_option maxRecDepth 100000 in
set_option maxHeartbeats 2000000 in
theorem refuse_init (w : World) (e t : Addr) (x : Str) (tm : Tok) :
  CallsOk w 367 [.ref e, .str x tm] 10 800 [(e, excO 370 t none)] (fun _ => True)
    (fun v post => v = .none ∧ ∃ D tk, post = [(D, msgO w x tm tk), (e, excO 370 t (some D))] ∧ @LT.lt Nat _ e D) := by
  unfold CallsOk
  have tg9 : Mine.Tg 39303 := tgI 39303
  k_fill
  intro p loose mean mg mb dp un gd cn cs a ccd cl outer A₀ base h₀ L m rest s Q E B F X N hoff T hk hd hu hy hret
  refine wpAny_call ?_
  k_dflt (refine' code_defW ?y0k1 ?y0k2 ?y0k3 ?y0k4 ?y0kO ?y0k5 ?y0kA ?y0kF ?y0kK ?y0k6 ?y0k7 ?y0k8 ?y0k9 ?y0kB ?y0kR ?_ ?y0c2 ?y0c3 ?y0c4 ?y0c5; (case y0kA => exact rfl); (case y0kF => exact rfl); (case y0kK => assumption); (case y0k1 => k_asm); (case y0k2 => k_asm); (case y0k3 => k_asm); (case y0k4 => k_asm); (case y0kO => assumption); (case y0k5 => k_asm); (case y0k6 => k_is); (case y0k7 => k_is); (case y0k8 => ktr_room); (case y0k9 => first | exact BindsTo.of_eq rfl | exact binds_K (by k_in) rfl (by k_is) rfl rfl rfl); (case y0c5 => decide); (case y0kB => exact locs rfl); (case y0kR => assumption); (case y0c2 => exact rfl); (case y0c3 => exact rfl); (case y0c4 => exact rfl); k_whole; intro g1 L1 h1 FG1 F1 N1 B1 X1 T1 G1; (try k_lift B1); (first | ((refine name_env2 ?_); intro tkE aA eE qk xE) | ((try dsimp only); (try k_fold); (try ((refine name_env ?_); intro aA eE xE)))))
  k_with "setAttr ref" => guard_hyp tg9 : Mine.Tg 39303; refine Halt.out ?_
  k_steps
  unfold Halt
  refine exc_setAttr (od' := fun tk => msgO w x tm tk) F1 N1 (X1.keeps F1.keep) (by kernel_rfl) (by kernel_rfl) (by kernel_rfl) (by kernel_rfl) (fun _ h => nomatch h) (fun _ => rfl) (fun _ => rfl) (fun _ => by show 1 ≤ 1000; decide) ?_
  intro tk9 D9 h9 tk8 F9 N9 l9 l8
  k_steps
  exact Out.intro (by assumption) (by assumption) [(D9, msgO w x tm tk9), (e, excO 370 t (some D9))] (by kqd_sub) ⟨rfl, D9, tk9, rfl, l8⟩

theorem under_tc (dp un : Nat) (gd : Option (List Code)) (cn : Str) (cs : Scope) (L a : Addr) (ccd : Value) (cl : List (Str × Addr)) (outer : List Env) (x : Str) (tm : Tok) :
    ∃ dp' un' gd', (ktrTop dp un gd cn cs L a ccd cl outer).under (.builtin "type.__call__" ⟨[.ref 370, .str x tm], []⟩) = ktrTop dp' un' gd' cn cs L a ccd cl outer ∧ dp' ≤ dp + 2 ∧ un' ≤ un + 40 :=
  ⟨_, _, _, rfl, Nat.add_le_add_left (Nat.le_trans (Nat.le_of_eq (show (Code.builtin "type.__call__" ⟨[.ref 370, .str x tm], []⟩).weight = 1 from rfl)) (by decide)) dp, Nat.add_le_add_left (Nat.le_trans (Nat.le_of_eq (show (Code.builtin "type.__call__" ⟨[.ref 370, .str x tm], []⟩).cUnits = 1 from rfl)) (by decide)) un⟩
set_option maxRecDepth 100000 in
theorem refuse_class (w : World) : ∃ nm q bs hdct sn sub ab col dd k0 k1 k2 k3 k5, (Mine.hd.heap_39 w.params).lookup 370 = some (excClassObj nm q 370 369 bs [.ref 350, .type "Exception", .type "BaseException", .type "object"] hdct sn sub ab col dd k0 k1 k2 k3 k5 "Exception.__new__") :=
  ⟨_, _, _, _, _, _, _, _, _, _, _, _, _, _, by with_unfolding_all rfl⟩
set_option maxRecDepth 100000 in
set_option maxHeartbeats 2000000 in
theorem refuse_make (w : World) (x : Str) (tm : Tok) {p : Program} {loose : List Str} {mean : ExcName → Option Value} {mg mb : Str → Option Value} {dp un : Nat} {gd : Option (List Code)} {cn : Str} {cs : Scope} {a : Addr} {ccd : Value} {cl : List (Str × Addr)} {outer : List Env} {A₀ : Around} {base h₀ : Heap} {L : Addr} {m : Str → Option Value} {rest : List (Addr × Obj)} {s : Shared} {Q E : Value → Shared → Prop}
    (B : Below A₀ base outer h₀) (F : Fr h₀ L s.heap m) (X : (Mine.hd.heap_39 w.params).In h₀) (N : News h₀ L s.heap rest) (T : Top p loose mean mg mb h₀) (hk : cs.kind = .function) (hd : dp + 20 < recursionLimit) (hu : un + 1000 < cLine)
    (hret : ∀ e D t tk h' tk', Fr h₀ L h' m → News h₀ L h' ((D, msgO w x tm tk) :: (e, excO 370 t (some D)) :: rest) → D ≠ e → Q (.ref e) { s with heap := h', toks := tk' }) :
    wpAny (model PySem.Challenge.rw_pq1336_01.row.prog w) (ktrTop dp un gd cn cs L a ccd cl outer) (call (.ref 370) [.str x tm]) Q E s := by
  (first | (refine hideW ?_; intro gG9; obtain ⟨nm, q, bs, hdct, sn, sub, ab, col, dd, k0, k1, k2, k3, k5, ho⟩ := refuse_class w; refine (?_ : wpAny _ _ _ _ _ _); clear gG9) | obtain ⟨nm, q, bs, hdct, sn, sub, ab, col, dd, k0, k1, k2, k3, k5, ho⟩ := refuse_class w)
  (first | (refine hideW ?_; intro gG9; obtain ⟨hh, g, d, t, os⟩ := s; refine (?_ : wpAny _ _ _ _ _ _); clear gG9) | obtain ⟨hh, g, d, t, os⟩ := s)
  have Xh : (Mine.hd.heap_39 w.params).In hh := X.keeps F.keep
  refine exc_make PySem.F.excBase_Exception (tail_of_in Xh (by kernel_rfl)) Xh (fI := 367) (Xh _ _ ho) (by kernel_rfl) (by kernel_rfl) ?_
  (first | (refine hideW ?_; intro gG9; obtain ⟨dp', un', gd', hA, h1, h2⟩ := under_tc dp un gd cn cs L a ccd cl outer x tm; refine (?_ : wpAny _ _ _ _ _ _); clear gG9) | obtain ⟨dp', un', gd', hA, h1, h2⟩ := under_tc dp un gd cn cs L a ccd cl outer x tm)
  rw [hA]
  have N2 := (N.push F { cls := .type "tuple", data := .seq #[Value.str x tm] }).push (F.push _) (excO 370 hh.objs.size none)
  rw [Heap.size_push] at N2
  have F2 := (F.push { cls := .type "tuple", data := .seq #[Value.str x tm] }).push (excO 370 hh.objs.size none)
  refine refuse_init w (hh.objs.size + 1) hh.objs.size x tm p loose mean mg mb dp' un' gd' cn cs a ccd cl outer A₀ base h₀ L m rest ⟨_, g, d, t, os⟩ _ E B F2 X (fun q hq => N2 q ?_) (fun p hp q hq e => ?_) T hk (by (exact om204 (by k_asm) (by k_asm))) (by (exact om205 (by k_asm) (by k_asm))) trivial ?_
  · rcases List.mem_append.mp hq with hq | hq
    · rw [List.mem_singleton.mp hq]; exact .head _
    · exact .tail _ (.tail _ hq)
  · rw [List.mem_singleton.mp hp] at e
    have := Heap.lt_size (N q hq).1
    rw [← e] at this
    exact absurd this (Nat.not_lt_of_le (Nat.le_succ _))
  · rintro v post h' tk' F3 N3 O3 ⟨rfl, D, tk, rfl, l⟩
    exact ⟨rfl, hret _ D _ tk h' tk' F3 N3 (Nat.ne_of_gt l)⟩
/-- Refusal(x) raised in a def's frame: made, and the frame left -/
theorem raise_now (w : World) (x : Str) (tm : Tok) {p : Program} {loose : List Str} {mean : ExcName → Option Value} {mg mb : Str → Option Value} {dp un : Nat} {gd : Option (List Code)} {cn : Str} {cs : Scope} {a : Addr} {ccd : Value} {cl : List (Str × Addr)} {outer : List Env} {A₀ A : Around} {env : Env} {base h₀ : Heap} {L : Addr} {m : Str → Option Value} {rest : List (Addr × Obj)} {s : Shared} {E E' E₂ : Value → Shared → Prop} {oC : Obj}
    (B : Below A₀ base outer h₀) (F : Fr h₀ L s.heap m) (X : (Mine.hd.heap_39 w.params).In h₀) (N : News h₀ L s.heap rest) (T : Top p loose mean mg mb h₀) (hk : cs.kind = .function) (hd : dp + 20 < recursionLimit) (hu : un + 1000 < cLine)
    (ho : (Mine.hd.heap_39 w.params).lookup 370 = some oC) (hA : A.frames = some (env :: outer)) (hf : env.frame = some L) (hke : env.scope.kind = .function)
    (hE : ∀ e D tm tk h' tk', RaisedD base h₀ outer e (.ref 370) D (msgO w x tm tk) h' → h₀.UpToSlots h' → E (.ref e) { s with heap := h', toks := tk' }) :
    wpAny (model PySem.Challenge.rw_pq1336_01.row.prog w) (ktrTop dp un gd cn cs L a ccd cl outer) (call (.ref 370) [.str x tm])
      (ExcMade 370 oC (fun e s' => wpAny (model PySem.Challenge.rw_pq1336_01.row.prog w) A (leaving env e) (fun _ s'' => E e s'') E₂ s')) E' s :=
  refuse_make w x tm B F X N T hk hd hu fun e D t tk h' tk' F' N' hne =>
    ⟨e, t, some D, rfl, X.keeps F'.keep _ _ ho, (N' _ (.tail _ (.head _))).1,
      leave_raiseD B hA hf hke F' N' (.tail _ (.head _)) (.head _) hne fun h₂ R U => hE e D tm tk h₂ tk' R U⟩
theorem useR {w : World} {f : Addr} {vs : List Value} {dN uN : Nat} {Hyp : Heap → Prop} {x : Str} {p : Program} {loose : List Str} {mean : ExcName → Option Value} {mg mb : Str → Option Value} {dp un : Nat} {gd : Option (List Code)} {cn : Str} {cs : Scope} {a : Addr} {ccd : Value} {cl : List (Str × Addr)} {outer : List Env} {A₀ : Around} {base h₀ : Heap} {L : Addr} {m : Str → Option Value} {rest : List (Addr × Obj)} {s : Shared} {Q E : Value → Shared → Prop}
    (H : RaisesOk w f vs dN uN [] Hyp x) (B : Below A₀ base outer h₀) (F : Fr h₀ L s.heap m) (X : (Mine.hd.heap_39 w.params).In h₀) (N : News h₀ L s.heap rest) (T : Top p loose mean mg mb h₀) (hk : cs.kind = .function)
    (hd : dp + dN < recursionLimit) (hu : un + uN < cLine) (hy : Hyp s.heap)
    (hE : ∀ (e D : Addr) (tm tk : Tok) (G h' : Heap) (tk' : Nat), Fr h₀ L G m → (∀ q ∈ rest, G.get? q.1 = some q.2) → RaisedD base G (envX cn cs L a ccd cl :: outer) e (.ref 370) D (msgO w x tm tk) h' → G.UpToSlots h' → E (.ref e) { s with heap := h', toks := tk' }) :
    wpAny (model PySem.Challenge.rw_pq1336_01.row.prog w) (ktrTop dp un gd cn cs L a ccd cl outer) (call (.ref f) vs) Q E s :=
  H p loose mean mg mb dp un gd cn cs a ccd cl outer A₀ base h₀ L m rest s Q E B F X N (fun _ h => nomatch h) T hk hd hu hy hE

end

section
-- part ChrX
set_option maxRecDepth 100000 in
set_option maxHeartbeats 2000000 in
theorem spreadX (w : World) (t1 : Nat) : RaisesOk w 614 [.str (Str.ofString "d-a") t1] 30 1400 [] (fun _ => True) (Str.ofString "decreasing range specification ('d-a')") := by
  unfold RaisesOk
  have tg9 : Mine.Tg 81380 := tgI 81380
  k_fill
  intro p loose mean mg mb dp un gd cn cs a ccd cl outer A₀ base h₀ L m rest s Q E B F X N hoff T hk hd hu hy hE
  have hret : ∀ (v : Value) (post : List (Addr × Obj)) (h' : Heap) (tk' : Nat), Fr h₀ L h' m → News h₀ L h' (post ++ rest) → Off post rest → (fun (_ : Value) (_ : List (Addr × Obj)) => False) v post → Q v { s with heap := h', toks := tk' } := fun _ _ _ _ _ _ _ h => h.elim
  refine wpAny_call ?_
  k_dflt (refine' code_defW ?y0k1 ?y0k2 ?y0k3 ?y0k4 ?y0kO ?y0k5 ?y0kA ?y0kF ?y0kK ?y0k6 ?y0k7 ?y0k8 ?y0k9 ?y0kB ?y0kR ?_ ?y0c2 ?y0c3 ?y0c4 ?y0c5; (case y0kA => exact rfl); (case y0kF => exact rfl); (case y0kK => assumption); (case y0k1 => k_asm); (case y0k2 => k_asm); (case y0k3 => k_asm); (case y0k4 => k_asm); (case y0kO => assumption); (case y0k5 => k_asm); (case y0k6 => k_is); (case y0k7 => k_is); (case y0k8 => ktr_room); (case y0k9 => first | exact BindsTo.of_eq rfl | exact binds_K (by k_in) rfl (by k_is) rfl rfl rfl); (case y0c5 => decide); (case y0kB => exact locs rfl); (case y0kR => assumption); (case y0c2 => exact rfl); (case y0c3 => exact rfl); (case y0c4 => exact rfl); k_whole; intro g1 L1 h1 FG1 F1 N1 B1 X1 T1 G1; (try k_lift B1); (first | ((refine name_env2 ?_); intro tkE aA eE qk xE) | ((try dsimp only); (try k_fold); (try ((refine name_env ?_); intro aA eE xE)))))
  have R1 := stays_in N hoff G1
  clear hret
  (first | (refine hideW ?_; intro gG9; obtain ⟨nm, q, bs, hdct, sn, sub, ab, col, dd, k0, k1, k2, k3, k5, ho37⟩ := refuse_class w; refine (?_ : wpAny _ _ _ _ _ _); clear gG9) | obtain ⟨nm, q, bs, hdct, sn, sub, ab, col, dd, k0, k1, k2, k3, k5, ho37⟩ := refuse_class w)
  k_with "exec While Compare cons nil" => guard_hyp tg9 : Mine.Tg 81380; refine Halt.out ?_
  k_steps
  rename_i fnd _ _ _ _ _ _ _ _ F5 N5 _ _ _ _ _
  unfold Halt
  refine' ksw_while (fun _ : Tok => [(fnd, listOf #[] 0)]) (fun c => [(Str.ofString "at", .int 0 c)]) (fun _ => True) [] (fun _ => True) (fun _ => 0) _ (by assumption) N5 trivial ?hk1 trivial ?turn1
  case hk1 => tb_start
  case turn1 =>
    intro c u h4 tk4 _ hP F4 N4
    k_with "execs cons" => guard_hyp tg9 : Mine.Tg 81380; ((with_reducible show wpAny _ _ (execs (Stmt.Raise _ _ _ :: _) _) _ _ _); refine Halt.out ?_)
    k_with "call ref" => guard_hyp tg9 : Mine.Tg 81380; ((with_reducible show wpAny _ _ (call (Value.ref 370) _) _ _ _); refine Halt.out ?_)
    k_with "subscriptTail Name Name str int" => guard_hyp tg9 : Mine.Tg 81380; (refine sign_at (show (Str.ofString "d-a").cps.toList[0]? = some 100 from by decide) (by decide) (by decide) ?_)
    k_with "subscriptTail Name BinOp str int" => guard_hyp tg9 : Mine.Tg 81380; (first | (refine sign_at (show (Str.ofString "d-a").cps.toList[0 + 1]? = some 45 from by decide) (by decide) (by decide) ?_) | (refine sign_at (show (Str.ofString "d-a").cps.toList[0 + 2]? = some 97 from by decide) (by decide) (by decide) ?_))
    k_steps
    unfold Halt
    refine wpAny_execs_cons ?_
    refine exc_Raise (C := 370) (N := 369) (bm := [.ref 350, .type "Exception", .type "BaseException", .type "object"]) (nm := nm) (q := q) (bs := bs) (hdct := hdct) (sn := sn) (sub := sub) (ab := ab) (col := col) (dd := dd) (k0 := k0) (k1 := k1) (k2 := k2) (k3 := k3) (k5 := k5) (newId := "Exception.__new__") (by decide) rfl ?_
    k_steps
    unfold Halt
    rw [show (Str.empty ++ Str.ofString "decreasing range specification ('" ++ Txt.slice (Str.ofString "d-a") (some 0) (some (0 + 3)) ++ Str.ofString "')" : Str) = Str.ofString "decreasing range specification ('d-a')" from by decide]
    k_dflt (refine' raise_now w _ _ ?a1 ?a2 ?a3 ?a4 ?a5 ?a6 ?a7 ?a8 ho37 ?a9 ?a10 ?a11 ?_; (case a1 => k_asm); (case a2 => k_asm); (case a3 => k_asm); (case a4 => k_asm); (case a5 => k_asm); (case a6 => exact rfl); (case a7 => ktr_room); (case a8 => (show un + 3 + 1000 < cLine; (exact om198 (by k_asm)))); (case a9 => exact rfl); (case a10 => exact rfl); (case a11 => exact rfl))
    intro e9 D9 tm9 tk9 h9 tk8 R9 U9
    exact hE e9 D9 tm9 tk9 g1 h9 tk8 FG1 R1 R9 U9
set_option maxRecDepth 100000 in
set_option maxHeartbeats 2000000 in
theorem chartrF (w : World) (y : Str) (tv : Value) (t1 t2 : Nat) : RaisesOk w 619 [.str (Str.ofString "d-a") t1, .str y t2, tv] 40 2400 [] (fun _ => True) (Str.ofString "decreasing range specification ('d-a')") := by
  unfold RaisesOk
  have tg9 : Mine.Tg 80350 := tgI 80350
  k_fill
  intro p loose mean mg mb dp un gd cn cs a ccd cl outer A₀ base h₀ L m rest s Q E B F X N hoff T hk hd hu hy hE
  have hret : ∀ (v : Value) (post : List (Addr × Obj)) (h' : Heap) (tk' : Nat), Fr h₀ L h' m → News h₀ L h' (post ++ rest) → Off post rest → (fun (_ : Value) (_ : List (Addr × Obj)) => False) v post → Q v { s with heap := h', toks := tk' } := fun _ _ _ _ _ _ _ h => h.elim
  refine wpAny_call ?_
  k_dflt (refine' code_defWC ?y1k1 ?y1k2 ?y1k3 ?y1k4 ?y1kO ?y1k5 ?y1kA ?y1kF ?y1kK ?y1k6 ?y1k7 ?y1k8 ?y1k9 ?y1kB ?y1kD ?y1kR ?_ ?y1c2 ?y1c3 ?y1c4; (case y1kA => exact rfl); (case y1kF => exact rfl); (case y1kK => assumption); (case y1k1 => k_asm); (case y1k2 => k_asm); (case y1k3 => k_asm); (case y1k4 => k_asm); (case y1kO => assumption); (case y1k5 => k_asm); (case y1k6 => k_is); (case y1k7 => k_is); (case y1k8 => ktr_room); (case y1k9 => first | exact BindsTo.of_eq rfl | exact binds_K (by k_in) rfl (by k_is) rfl rfl rfl); (case y1kB => exact rfl); (case y1kD => decide +kernel); (case y1kR => assumption); (case y1c2 => exact rfl); (case y1c3 => exact rfl); (case y1c4 => exact rfl); k_whole; intro g1 L1 h1 tk1 cells1 FG1 F1 N1 Y1 B1 X1 T1 l1 G1; (try k_lt l1); k_cells Y1; (try dsimp only [List.cons_append, List.nil_append] at N1); (try k_lift B1); (first | ((refine name_env2 ?_); intro tkE aA eE qk xE) | ((try dsimp only); (try k_fold); (try ((refine name_env ?_); intro aA eE xE)))))
  have R1 := stays_in N hoff G1
  clear hret
  k_with "call ref" => guard_hyp tg9 : Mine.Tg 80350; ((with_reducible show wpAny _ _ (call (Value.ref 614) _) _ _ _); refine Halt.out ?_)
  k_steps
  unfold Halt
  (((k_dflt (refine (useR (spreadX w t1)) (by k_asm) (by k_asm) (by k_asm) (by k_asm) (by k_asm) (by first | exact rfl | assumption) (by ktr_room) (by ktr_units) (by first | exact True.intro | assumption) ?_)); intro e9 D9 tm9 tk9 G9 h9 tk8 FG9 hR9 R9 U9))
  refine leave_onD rfl rfl FG9 R9 U9 fun h7 R7 U7 => ?_
  exact hE e9 D9 tm9 tk9 g1 h7 tk8 FG1 R1 R7 U7
set_option maxRecDepth 100000 in
set_option maxHeartbeats 2000000 in
theorem chartrS (w : World) (x y : Str) (t1 t2 : Nat) (b h : List Nat) (tv : Value) (hb : spreadF x.cps.toList = some b) (hh : spreadF y.cps.toList = some h) (hbl : h.length < b.length) (hhl : b.length ≤ 200)
    (hxl : x.length ≤ 20) (hyl : y.length ≤ 20) (hxa : ∀ c ∈ x.cps.toList, c < 128) (hya : ∀ c ∈ y.cps.toList, c < 128) : RaisesOk w 619 [.str x t1, .str y t2, tv] 40 2400 [] (fun _ => True) (Str.ofString "'old' is longer than 'new'") := by
  unfold RaisesOk
  have tg9 : Mine.Tg 17640 := tgI 17640
  k_fill
  intro p loose mean mg mb dp un gd cn cs a ccd cl outer A₀ base h₀ L m rest s Q E B F X N hoff T hk hd hu hy hE
  have hret : ∀ (v : Value) (post : List (Addr × Obj)) (h' : Heap) (tk' : Nat), Fr h₀ L h' m → News h₀ L h' (post ++ rest) → Off post rest → (fun (_ : Value) (_ : List (Addr × Obj)) => False) v post → Q v { s with heap := h', toks := tk' } := fun _ _ _ _ _ _ _ h => h.elim
  refine wpAny_call ?_
  k_dflt (refine' code_defWC ?y2k1 ?y2k2 ?y2k3 ?y2k4 ?y2kO ?y2k5 ?y2kA ?y2kF ?y2kK ?y2k6 ?y2k7 ?y2k8 ?y2k9 ?y2kB ?y2kD ?y2kR ?_ ?y2c2 ?y2c3 ?y2c4; (case y2kA => exact rfl); (case y2kF => exact rfl); (case y2kK => assumption); (case y2k1 => k_asm); (case y2k2 => k_asm); (case y2k3 => k_asm); (case y2k4 => k_asm); (case y2kO => assumption); (case y2k5 => k_asm); (case y2k6 => k_is); (case y2k7 => k_is); (case y2k8 => ktr_room); (case y2k9 => first | exact BindsTo.of_eq rfl | exact binds_K (by k_in) rfl (by k_is) rfl rfl rfl); (case y2kB => exact rfl); (case y2kD => decide +kernel); (case y2kR => assumption); (case y2c2 => exact rfl); (case y2c3 => exact rfl); (case y2c4 => exact rfl); k_whole; intro g1 L1 h1 tk1 cells1 FG1 F1 N1 Y1 B1 X1 T1 l1 G1; (try k_lt l1); k_cells Y1; (try dsimp only [List.cons_append, List.nil_append] at N1); (try k_lift B1); (first | ((refine name_env2 ?_); intro tkE aA eE qk xE) | ((try dsimp only); (try k_fold); (try ((refine name_env ?_); intro aA eE xE)))))
  have R1 := stays_in N hoff G1
  clear hret
  (first | (refine hideW ?_; intro gG9; obtain ⟨nm, q, bs, hdct, sn, sub, ab, col, dd, k0, k1, k2, k3, k5, ho37⟩ := refuse_class w; refine (?_ : wpAny _ _ _ _ _ _); clear gG9) | obtain ⟨nm, q, bs, hdct, sn, sub, ab, col, dd, k0, k1, k2, k3, k5, ho37⟩ := refuse_class w)
  k_with "call ref" => guard_hyp tg9 : Mine.Tg 17640; ((with_reducible show wpAny _ _ (call (Value.ref 370) _) _ _ _); refine Halt.out ?_)
  k_with "call ref" => guard_hyp tg9 : Mine.Tg 17640; ((with_reducible show wpAny _ _ (call (Value.ref 614) _) _ _ _); (first | ((((k_dflt (refine use0 (spread_ok w x t1 b hxl (by (with_reducible assumption)) hxa hb) (by k_asm) (by k_asm) (by k_asm) (by k_asm) (by k_asm) (by first | exact rfl | assumption) (by ktr_room) (by ktr_units) (by first | exact True.intro | assumption) ?_)); intro v9 p9 h9 tk9 F9 N9 O9 P9)); obtain ⟨Db, vb, nb, e8, f8, ob⟩ := P9) | ((((k_dflt (refine use0 (spread_ok w y t2 h hyl (by (exact om199 (by k_asm) (by k_asm))) hya hh) (by k_asm) (by k_asm) (by k_asm) (by k_asm) (by k_asm) (by first | exact rfl | assumption) (by ktr_room) (by ktr_units) (by first | exact True.intro | assumption) ?_)); intro v9 p9 h9 tk9 F9 N9 O9 P9)); obtain ⟨Dh, vh, nh, e8, f8, oh⟩ := P9)); subst e8 f8; (try dsimp only [List.cons_append, List.nil_append] at N9))
  k_with "call builtin:len cons nil" => guard_hyp tg9 : Mine.Tg 17640; (refine len_at (by k_asm) (by k_mem) _ (osa_len (by with_reducible assumption)) (by (first | exact om108 (by k_asm) | exact om200 (by k_asm) (by k_asm))) ?_)
  k_with "execs cons" => guard_hyp tg9 : Mine.Tg 17640; ((with_reducible show wpAny _ _ (execs (Stmt.Raise _ _ _ :: _) _) _ _ _); refine Halt.out ?_)
  k_steps
  unfold Halt
  ((refine wpAny_execs_cons ?_; (refine exc_Raise (C := 370) (N := 369) (bm := [.ref 350, .type "Exception", .type "BaseException", .type "object"]) (nm := nm) (q := q) (bs := bs) (hdct := hdct) (sn := sn) (sub := sub) (ab := ab) (col := col) (dd := dd) (k0 := k0) (k1 := k1) (k2 := k2) (k3 := k3) (k5 := k5) (newId := "Exception.__new__") (by decide) rfl ?_)))
  k_steps
  unfold Halt
  (((k_dflt (refine raise_now _ _ _ (by k_asm) (by k_asm) (by k_asm) (by k_asm) (by k_asm) (by exact rfl) (by ktr_room) (by ktr_units) ho37 (by exact rfl) (by exact rfl) (by exact rfl) ?_)); intro e9 D9 tm9 tk9 h9 tk8 R9 U9))
  exact hE e9 D9 tm9 tk9 g1 h9 tk8 FG1 R1 R9 U9

end

section
-- part CompX
/-! a list comprehension whose first turn raises -/
theorem FlyD.less {base B h : Heap} {l : List Env} {e : Addr} {cls fl : Value} {dx : Option Addr} (k : base.StaysIn B) (x : FlyD B l e cls dx fl h) : FlyD base l e cls dx fl h := by
  (first | (refine hideW ?_; intro gG9; obtain ⟨a, b, c, vs, sl, T, oT, ts, h1, h2, h3, r⟩ := x; refine (?_ : wpAny _ _ _ _ _ _); clear gG9) | obtain ⟨a, b, c, vs, sl, T, oT, ts, h1, h2, h3, r⟩ := x)
  exact ⟨fun q o z => a q o (k q o z), fresh_of_stays k b, funFrames_base k c, vs, sl, T, oT, ts, h1, h2, fresh_of_stays k h3, r⟩
theorem frameOf_same {env env' : Env} (h : env'.frame = env.frame) : PySem.frameOf env' = PySem.frameOf env := by unfold PySem.frameOf; rw [h]
theorem funFrames_at {h h' base : Heap} (k : ∀ b o, base.get? b = none → h.get? b = some o → h'.get? b = some o) : ∀ {l : List Env}, h.FunFrames base l → h'.FunFrames base l
  | [], _ => trivial
  | _ :: _, ⟨hk, ⟨L, o, hf, hn, ho, hd⟩, hr⟩ => ⟨hk, ⟨L, o, hf, hn, k _ _ hn ho, hd⟩, funFrames_at k hr⟩
theorem FlyD.but {B h h' : Heap} {l : List Env} {e C : Addr} {oC : Obj} {cls fl : Value} {dx : Option Addr} (x : FlyD B l e cls dx fl h) (hC : B.get? C = some oC) (k : ∀ b o, b ≠ C → h.get? b = some o → h'.get? b = some o) : FlyD (B.hide C) l e cls dx fl h' := by
  (first | (refine hideW ?_; intro gG9; obtain ⟨a, b, c, vs, sl, T, oT, ts, h1, h2, h3, h4, h5, r⟩ := x; refine (?_ : wpAny _ _ _ _ _ _); clear gG9) | obtain ⟨a, b, c, vs, sl, T, oT, ts, h1, h2, h3, h4, h5, r⟩ := x)
  have st : (B.hide C).StaysIn B := fun _ _ q => Heap.of_hide q
  have ne : ∀ q, B.get? q = none → q ≠ C := fun q z e => by rw [e, hC] at z; cases z
  refine ⟨fun q o z => k q o (fun e => by rw [e, Heap.hide_self] at z; cases z) (a q o (Heap.of_hide z)), fresh_of_stays st b, funFrames_base st (funFrames_at (fun q o z => k q o (ne q z)) c),
    vs, sl, T, oT, ts, k _ _ (ne e b) h1, h2, fresh_of_stays st h3, h4, k _ _ (ne T h3) h5, r⟩

section
variable {M : Model} {A : Around} {E : Value → Shared → Prop} {s : Shared} {base : Heap} {env env' : Env} {outer : List Env} {L e : Addr} {cls fl : Value} {dx : Option Addr}
theorem noteAny {Q : Unit → Shared → Prop} (hfr : A.frames = some (env :: outer)) (hf : env.frame = some L) (hf' : env'.frame = some L) (x : FlyD base (env :: outer) e cls dx fl s.heap)
    (h : ∀ h', FlyD base (env :: outer) e cls dx (rawInt L) h' → s.heap.UpToSlots h' → Q () { s with heap := h' }) : wpAny M A (noteFrame (.ref e) env') Q E s := by
  by_cases q : fl = rawInt L
  · subst q
    exact noteAgain hf' x (h _ x (Heap.UpToSlots.refl _))
  · obtain ⟨hkb, hen, hl, vs, sl, T, oT, ts, he, h1, hTb, hTe, hT, hTd, h3⟩ := x
    unfold noteFrame
    simp only [hf']
    refine wpAny_bind (wpAny_field he rfl h1 ?_)
    rw [if_pos (show (Value.ref T != Value.none) = true from by simp), frameOf_same (hf'.trans hf.symm)]
    refine wpAny_bind (wpAny_field hT hTd h3 ?_)
    rw [if_neg (show ¬ ((fl == rawInt L) = true) from fun z => q (beq_iff_eq.mp z))]
    refine wpAny_bind (wpAny_setField hT hTd (Array.getElem?_eq_some_iff.mp h3).1 ?_)
    have other : ∀ b o, b ≠ T → s.heap.get? b = some o → (s.heap.update T (Obj.mapFields (·.setIfInBounds 3 Value.none))).get? b = some o := fun b o hb q => (Heap.get?_update_other _ _ (Ne.symm hb)).trans q
    have nrec : ∀ b o, s.heap.get? b = some o → (∀ ws, o.data ≠ .fields ws) → b ≠ T := fun b o hb hn q => by
      rw [q, hT] at hb; cases hb; exact hn ts hTd
    exact entryD hfr (hl.of_keeps fun b o hb hn => ⟨o, other b o (nrec b o hb hn) hb, rfl⟩) hf (other e _ hTe.symm he)
      (fun b o hb => other b o (fun q => by rw [q, hTb] at hb; cases hb) (hkb b o hb)) hen (Array.getElem?_eq_some_iff.mp h1).1
      fun h' x4 x5 => h h' x4 fun b o hb hn => x5 b o (other b o (nrec b o hb hn) hb) hn
theorem leaveAny {Q : Unit → Shared → Prop} (hfr : A.frames = some (env :: outer)) (hf : env.frame = some L) (x : FlyD base (env :: outer) e cls dx fl s.heap)
    (h : ∀ h', FlyD base outer e cls dx .none h' → s.heap.UpToSlots h' → Q () { s with heap := h' }) : wpAny M A (leaving env (.ref e)) Q E s := by
  unfold leaving
  exact wpAny_bind (noteAny hfr hf hf x fun h₁ x u => letGo x fun h₂ x₂ u₂ => h h₂ x₂.outer (u.trans fun b o hb hn => ⟨o.slots, u₂ b o hb hn⟩))
/-- passed on -/
theorem passOnD {α : Type} {Q : α → Shared → Prop} {l : List Env} {what : String} (x : FlyD base l e cls dx fl s.heap)
    (h : ∀ fl' h', FlyD base l e cls dx fl' h' → (∀ b o, s.heap.get? b = some o → (∀ ws, o.data ≠ .fields ws) → h'.get? b = some o) → E (.ref e) { s with heap := h' }) : wpAny M A (PySem.passOn what (.ref e) env : Sem α) Q E s := by
  (first | (refine hideW ?_; intro gG9; obtain ⟨hkb, hen, hl, vs, sl, T, oT, ts, he, h1, hTb, hTe, hT, hTd, h3⟩ := x; refine (?_ : wpAny _ _ _ _ _ _); clear gG9) | obtain ⟨hkb, hen, hl, vs, sl, T, oT, ts, he, h1, hTb, hTe, hT, hTd, h3⟩ := x)
  have hsz : 3 < ts.size := (Array.getElem?_eq_some_iff.mp h3).1
  unfold PySem.passOn
  refine wpAny_bind (wpAny_field he rfl h1 ?_)
  rw [if_neg (show ¬ ((Value.ref T == Value.none) = true) from by simp)]
  refine wpAny_bind ?_
  unfold setFlight
  refine wpAny_bind (wpAny_field he rfl h1 ?_)
  rw [if_pos (show (Value.ref T != Value.none) = true from by simp)]
  generalize (env.frame.elim Value.none fun f => rawInt f) = fl'
  have other : ∀ b o, b ≠ T → s.heap.get? b = some o → (s.heap.update T (Obj.mapFields (·.setIfInBounds 3 fl'))).get? b = some o := fun b o hb q => (Heap.get?_update_other _ _ (Ne.symm hb)).trans q
  have nrec : ∀ b o, s.heap.get? b = some o → (∀ ws, o.data ≠ .fields ws) → b ≠ T := fun b o hb hn q => by
    rw [q, hT] at hb; cases hb; exact hn ts hTd
  refine wpAny_setField hT hTd hsz (wpAny_throw (h fl' _ ⟨fun b o hb => other b o (fun q => by rw [q, hTb] at hb; cases hb) (hkb b o hb), hen, hl.of_keeps fun b o hb hn => ⟨o, other b o (nrec b o hb hn) hb, rfl⟩,
    vs, sl, T, _, _, other e _ hTe.symm he, h1, hTb, hTe, Heap.get?_update_self _ hT (Obj.isFreed_of_fields (Obj.data_mapFields hTd _)), Obj.data_mapFields hTd _, by simp [hsz]⟩ fun b o hb hn => other b o (nrec b o hb hn) hb))
end

/-- how the first turn leaves: the exception in flight, the comprehension's own names as they stood -/
noncomputable def CompX (A : Around) (env : Env) (L : Addr) (C : Addr) (oC : Obj) (E : Value → Shared → Prop) (e : Value) (s' : Shared) : Prop :=
  ∃ ee cls dx B outer, e = .ref ee ∧ A.frames = some (env :: outer) ∧ env.frame = some L ∧ FlyD B (env :: outer) ee cls dx .none s'.heap ∧ B.get? C = some oC ∧
    ∀ fl h'', FlyD (B.hide C) (env :: outer) ee cls dx fl h'' → (∀ b o, b ≠ C → s'.heap.get? b = some o → (∀ vs, o.data ≠ .fields vs) → ∃ sl, h''.get? b = some { o with slots := sl }) → E (.ref ee) { s' with heap := h'' }

section
variable {prog : Program} {w : World} {A : Around} {E : Value → Shared → Prop} {s : Shared} {h₀ : Heap} {L : Addr} {m : Str → Option Value} {env : Env}
set_option maxHeartbeats 1000000 in
theorem ListComp_X {elt iter : PySem.Expr} {x : Str} {px : Pos} {scope : Scope} {cl : List (Str × Addr)} {pos : Pos} {Q : Value → Shared → Prop} (F₀ : Fr h₀ L s.heap m)
    (hclos : closureFor scope env = pure cl) (hcell : ∀ y ∈ scope.names, y.2 ≠ .cell) (hkind : scope.kind = .function)
    (hnames : ∀ y ∈ scope.names, y.2 = .local → scope.names.lookup y.1 = some .local) (hx : scope.names.lookup x = some .local)
    (h : wpAny (model prog w) A (eval iter env) (fun xv s₁ => ∃ ax its k news v, xv = .ref ax ∧ A.handled = none ∧ Fr h₀ L s₁.heap m ∧ News h₀ L s₁.heap news ∧ (ax, ({ cls := .type "list", data := .seq its k } : Obj)) ∈ news ∧ its[0]? = some v ∧
      ∀ I oI C oC D m₂ h tk, LCg.NsObj oC m₂ → m₂ x = some v → Fr h₀ L h m → News h₀ L h ((I, oI) :: (C, oC) :: (D, LCg.lst []) :: news) → LCg.Off3 I C D news → ((@Ne Nat I C) ∧ (@Ne Nat I D) ∧ (@Ne Nat C D)) →
        wpAny (model prog w) A (eval elt (compEnvC scope cl C env)) (fun _ _ => False) (CompX A env L C oC E) { s₁ with heap := h, toks := tk }) E s)
    (hs : ∀ x, foldedSetIterable iter env x = pure x := by intro _; rfl) :
    wpAny (model prog w) A (eval (.ListComp elt [⟨.Name x px, iter, [], 0⟩] scope pos) env) Q E s := by
  rw [eval_ListComp]
  refine wpAny_comprehension_free (use := none) rfl hs hclos hkind hnames (wpAny_mono h (fun xv s₁ h₁ => ?_) fun _ _ e => e)
  (first | (refine hideW ?_; intro gG9; obtain ⟨ax, its, k, news, v, zq1, hh, F, N, hm, hv, turn⟩ := h₁; refine (?_ : wpAny _ _ _ _ _ _); clear gG9; (first | subst zq1 | cases zq1)) | obtain ⟨ax, its, k, news, v, rfl, hh, F, N, hm, hv, turn⟩ := h₁)
  have hl : s₁.heap.IsList ax its := ⟨_, (N _ hm).1, rfl, k, rfl⟩
  have hlt : ax < s₁.heap.objs.size := Heap.lt_size (N _ hm).1
  refine wpAny_pyIter_list hl ?_
  have W := Walks.list (prog := prog) (w := w) hh s₁.heap.objs.size ax (Nat.ne_of_lt hlt) its
  have up : ∀ b o, s₁.heap.get? b = some o → (s₁.heap.push { cls := .type "list_iterator", data := .fields #[.ref ax, .int 0 0] }).get? b = some o := fun b o e => Heap.get?_push_of_some _ e
  have st0 : (s₁.heap.push { cls := .type "list_iterator", data := .fields #[.ref ax, .int 0 0] }).IsListIter s₁.heap.objs.size ax 0 ∧ (s₁.heap.push { cls := .type "list_iterator", data := .fields #[.ref ax, .int 0 0] }).IsList ax its := ⟨⟨_, Heap.get?_push_size _ rfl, rfl, rfl⟩, hl.push _⟩
  generalize hH1 : s₁.heap.push { cls := .type "list_iterator", data := .fields #[.ref ax, .int 0 0] } = H1 at up st0 ⊢
  have hn1 : H1.objs.size = s₁.heap.objs.size + 1 := by rw [← hH1, Heap.size_push]
  refine wpAny_newObj_type (wpAny_newFunctionEnv hcell (by intro y hy; simp at hy) (fun h₁ hns₁ hsb₁ => ?_) hkind)
  dsimp only at hns₁ hsb₁ ⊢
  generalize hH2 : H1.push { cls := .type "list", dict := none, data := .seq ([] : List Value).toArray } = H2 at hns₁ hsb₁ ⊢
  have hn2 : H2.objs.size = s₁.heap.objs.size + 2 := by rw [← hH2, Heap.size_push, hn1]
  have old : ∀ b o, H1.get? b = some o → h₁.get? b = some o := fun b o e => hsb₁.extBut b o (by have := Heap.lt_size e; rw [hn1] at this; rw [hn2]; exact Nat.ne_of_lt (Nat.lt_succ_of_lt this)) (Heap.get?_push_of_some _ (hH2 ▸ Heap.get?_push_of_some _ e))
  have hacc : h₁.get? H1.objs.size = some (LCg.lst []) := hsb₁.extBut _ _ (by rw [hn1, hn2]; exact Nat.ne_of_lt (Nat.lt_succ_self _)) (Heap.get?_push_of_some _ (hH2 ▸ Heap.get?_push_size _ rfl))
  have fresh₀ : ∀ a, s₁.heap.objs.size ≤ a → h₀.get? a = none := fun a ha => by
    cases e : h₀.get? a with
    | none => rfl
    | some o' => exact absurd (Heap.lt_size (F.keep a o' e)) (Nat.not_lt.mpr ha)
  have hI₀ : h₀.get? s₁.heap.objs.size = none := fresh₀ _ (Nat.le_refl _)
  have hD₀ : h₀.get? H1.objs.size = none := fresh₀ _ (by rw [hn1]; exact Nat.le_succ _)
  have hC₀ : h₀.get? H2.objs.size = none := fresh₀ _ (by rw [hn2]; exact Nat.le_trans (Nat.le_succ _) (Nat.le_succ _))
  have hLlt : L < s₁.heap.objs.size := F.ns.lt
  have hIL : L ≠ s₁.heap.objs.size := Nat.ne_of_lt hLlt
  have hDL : H1.objs.size ≠ L := by rw [hn1]; exact Nat.ne_of_gt (Nat.lt_succ_of_lt hLlt)
  have hCL : H2.objs.size ≠ L := by rw [hn2]; exact Nat.ne_of_gt (Nat.lt_succ_of_lt (Nat.lt_succ_of_lt hLlt))
  have hCI : s₁.heap.objs.size ≠ H2.objs.size := by rw [hn2]; exact Nat.ne_of_lt (Nat.lt_succ_of_lt (Nat.lt_succ_self _))
  have hDI : s₁.heap.objs.size ≠ H1.objs.size := by rw [hn1]; exact Nat.ne_of_lt (Nat.lt_succ_self _)
  have hDC : H1.objs.size ≠ H2.objs.size := by rw [hn1, hn2]; exact Nat.ne_of_lt (Nat.lt_succ_self _)
  have nlt : ∀ q ∈ news, @LT.lt Nat _ q.1 s₁.heap.objs.size := fun q hq => Heap.lt_size (N q hq).1
  have off₀ : LCg.Off3 s₁.heap.objs.size H2.objs.size H1.objs.size news := LCg.Off3.of fun q hq => ⟨Nat.ne_of_lt (nlt q hq), by rw [hn2]; exact Nat.ne_of_lt (Nat.lt_succ_of_lt (Nat.lt_succ_of_lt (nlt q hq))), by rw [hn1]; exact Nat.ne_of_lt (Nat.lt_succ_of_lt (nlt q hq))⟩
  have hst₁ := W.frame 0 _ h₁ st0 fun b _ o e => old b o e
  have F₁ : Fr h₀ L h₁ m := (F.keeps up).keeps old
  have loop : ∀ s₃ : Shared, s₃ = { s₁ with heap := h₁, toks := s₁.toks + ([] : List (Str × Value)).length } →
      codeAny (model prog w) A (.compLoop (.ListComp elt [⟨.Name x px, iter, [], 0⟩] scope pos) 0 (.ref s₁.heap.objs.size) (.ref H1.objs.size) (compEnvC scope cl H2.objs.size env))
        (compPost (model prog w) A E none Q (.ref H1.objs.size) H2.objs.size) s₃ := by
    rintro s₃ rfl
    refine codeAny_compLoop_tests (fun k s' => k = 1 ∧ s' = { s₁ with heap := h₁, toks := s₁.toks + ([] : List (Str × Value)).length }) ?_ 1 ⟨rfl, rfl⟩
    rintro k' s' ⟨rfl, rfl⟩
    refine W.item 0 _ _ _ (by have := (Array.getElem?_eq_some_iff.mp hv).1; (with_reducible assumption)) hst₁ fun v' h₂ tk₂ hPv hst₂ hk₂ => ?_
    obtain rfl : v = v' := Option.some.inj (hv.symm.trans hPv)
    refine wpAny_assign_Name (wpAny_storeName_local (lookup_relabel_local hx) (hns₁.at' fun o e => hk₂ _ o (by simpa using Ne.symm hCI) e) (fun h₃ hn₃ hs₃ => ?_) (by simp [compEnvC, relabel, hkind]))
    refine wpAny_tests_nil ?_
    simp only [if_true]
    (first | (refine hideW ?_; intro gG9; obtain ⟨oC, heC, hoC⟩ := LCg.ns_obj hn₃; refine (?_ : wpAny _ _ _ _ _ _); clear gG9) | obtain ⟨oC, heC, hoC⟩ := LCg.ns_obj hn₃)
    obtain ⟨oI, heI, hrI⟩ := (W.frame 1 _ h₃ hst₂ fun b hb o e => hs₃.extBut b o (fun q => by
      have q' : b = H2.objs.size := q
      subst q'
      rcases List.mem_cons.mp hb with z | z
      · exact hCI z.symm
      · have : H2.objs.size = ax := List.mem_singleton.mp z
        rw [hn2] at this
        have hlt' : @LT.lt Nat _ ax s₁.heap.objs.size := hlt
        (exact om280 (by k_asm) (by k_asm))) e).1
    have F₃ : Fr h₀ L h₃ m := (LCg.fr_but F₁ hk₂ hIL hI₀).change hs₃ hCL hC₀
    have off3 := off₀.mem
    have N₃ : News h₀ L h₃ ((s₁.heap.objs.size, oI) :: (H2.objs.size, oC) :: (H1.objs.size, LCg.lst []) :: news) := fun q hq => by
      rcases List.mem_cons.mp hq with rfl | hq
      · exact ⟨heI, Ne.symm hIL, hI₀⟩
      · rcases List.mem_cons.mp hq with rfl | hq
        · exact ⟨heC, hCL, hC₀⟩
        · rcases List.mem_cons.mp hq with rfl | hq
          · exact ⟨hs₃.extBut _ _ hDC (hk₂ _ _ (by simpa using Ne.symm hDI) hacc), hDL, hD₀⟩
          · exact ⟨hs₃.extBut _ _ (off3 q hq).2.1 (hk₂ _ _ (by simpa using (off3 q hq).1) (old _ _ (up _ _ (N q hq).1))), (N q hq).2⟩
    refine wpAny_mono (turn _ oI _ oC _ _ h₃ _ hoC (by simp) F₃ N₃ off₀ ⟨hCI, hDI, Ne.symm hDC⟩) (fun _ _ f => f.elim) fun e s' hX => ?_
    (first | (refine hideW ?_; intro gG9; obtain ⟨ee, cls, dx, B, outer, zq1, hA, hf, hfl, hBC, fin⟩ := hX; refine (?_ : wpAny _ _ _ _ _ _); clear gG9; (first | subst zq1 | cases zq1)) | obtain ⟨ee, cls, dx, B, outer, rfl, hA, hf, hfl, hBC, fin⟩ := hX)
    show wpAny _ A (noteFrame (.ref ee) (compEnvC scope cl H2.objs.size env)) _ _ s'
    refine noteAny hA hf (by exact hf) hfl fun h₅ x₅ u₅ => ?_
    refine ⟨_, hoC.ns (x₅.1 _ _ hBC), fun h₆ sb cenv hc => ?_⟩
    refine passOnD (x₅.but hBC fun b o hb q => sb.extBut b o hb q) fun fl' h₇ x₇ u₇ => fin fl' h₇ x₇ fun b o hb q hn => ?_
    obtain ⟨sl, q5⟩ := u₅ b o q hn
    exact ⟨sl, u₇ b _ (sb.extBut b _ hb q5) hn⟩
  exact codeAny_compStart_list (loop _ rfl) (W.self 0 _ _ _ hst₁ (loop _ rfl))
end
theorem raised_hide {base G g B h : Heap} {l l₉ : List Env} {e D C : Addr} {cls : Value} {od oC : Obj} (hB : base.StaysIn B) (hBG : ∀ b o, G.get? b = some o → b ∉ l₉.filterMap (·.frame) → B.get? b = some o) (hD : B.get? D = some od ∧ G.get? D = none) (he : G.get? e = none)
    (hC : G.get? C = some oC) (hCb : base.get? C = none) (hCg : g.get? C = none) (sub : ∀ b o, g.get? b = some o → G.get? b = some o) (nf : ∀ b o, g.get? b = some o → b ∉ l.filterMap (·.frame) → b ∉ l₉.filterMap (·.frame)) (x : FlyD (B.hide C) l e cls (some D) .none h) : RaisedD base g l e cls D od h :=
  ⟨B.hide C, fun b o q => (Heap.hide_ne B (fun z => by rw [z, hCb] at q; cases q)).trans (hB b o q), fun b o q nm => (Heap.hide_ne B (fun z => by rw [z, hCg] at q; cases q)).trans (hBG b o (sub b o q) (nf b o q nm)),
    ⟨(Heap.hide_ne B (fun z => by rw [← z, hD.2] at hC; cases hC)).trans hD.1, kts_none sub hD.2⟩, kts_none sub he, x⟩

end

section
-- part Turn
/-! a call that catches an exception on its way: it comes back, the outer frames' objects turned -/
noncomputable def OutT (fs : List Addr) (g : Heap) (s : Shared) (Post : Value → List (Addr × Obj) → Prop) (v : Value) (s' : Shared) : Prop :=
  ∃ (g' : Heap) (L' : Addr) (m' : Str → Option Value) (post : List (Addr × Obj)) (h' : Heap) (tk' : Nat), s' = { s with heap := h', toks := tk' } ∧ KtsTurn fs g g' ∧ Fr g' L' h' m' ∧ News g' L' h' post ∧ Post v post
theorem OutT.intro {fs : List Addr} {g g' : Heap} {s : Shared} {Post : Value → List (Addr × Obj) → Prop} {v : Value} {h' : Heap} {tk' : Nat} {L' : Addr} {m' : Str → Option Value} {all : List (Addr × Obj)} (T : KtsTurn fs g g') (F : Fr g' L' h' m') (N : News g' L' h' all) (post : List (Addr × Obj)) (hs : ∀ p ∈ post, p ∈ all) (hp : Post v post) :
    OutT fs g s Post v { s with heap := h', toks := tk' } := ⟨g', L', m', post, h', tk', rfl, T, F, fun p hp => N p (hs p hp), hp⟩
theorem Out.turn {fs : List Addr} {g : Heap} {s s' : Shared} {Post : Value → List (Addr × Obj) → Prop} {v : Value} (x : Out g s Post v s') : OutT fs g s Post v s' := by
  obtain ⟨L', m', post, h', tk', e, F, N, hp⟩ := x
  exact ⟨g, L', m', post, h', tk', e, .refl, F, N, hp⟩

section
variable {prog : Program} {w : World} {A₀ A : Around} {s : Shared} {base h₀ g : Heap} {outer : List Env} {L : Addr} {m : Str → Option Value} {env : Env} {pre rest : List (Addr × Obj)} {Q : Value → Shared → Prop}
    {K : Frag} {p : Program} {loose : List Str} {mean : ExcName → Option Value} {mg mb : Str → Option Value} {Post : Value → List (Addr × Obj) → Prop}
/-- a frame left behind a turn -/
theorem turned_back (B : Below A₀ base outer h₀) (F : Fr h₀ L s.heap m) (XB : K.In base) (TB : Top p loose mean mg mb base) (D : KtsDicts (outer.filterMap (·.frame)) h₀) (N : News h₀ L s.heap (pre ++ rest)) (hoff : Off pre rest) (hf : env.frame = some L)
    (FG : Fr h₀ L g m) (G : GSub s.heap g (pre.map (·.1)))
    (hret : ∀ (v : Value) (post : List (Addr × Obj)) (h' : Heap) (tk' : Nat) (h₀' : Heap), KtsTurn (outer.filterMap (·.frame)) h₀ h₀' → Fr h₀' L h' m → News h₀' L h' (post ++ rest) → Off post rest → Post v post → Below A₀ base outer h₀' → K.In h₀' → Top p loose mean mg mb h₀' → KtsDicts (outer.filterMap (·.frame)) h₀' → Q v { s with heap := h', toks := tk' })
    {v : Value} {s' : Shared} (hl : OutT ((env :: outer).filterMap (·.frame)) g s Post v s') : Q v s' := by
  obtain ⟨g', L', m', post, h', tk', rfl, T', F', N', hP⟩ := hl
  have nL : h₀.get? L = none := kts_self F
  have st : ∀ b o, h₀.get? b = some o → g.get? b = some o := FG.keep
  obtain ⟨oL, es, ep, hLg, hLd, hLk, hLf⟩ := FG.ns
  obtain ⟨sl, hs⟩ := T'.up hLg
  have off1 : ∀ b o, h₀.get? b = some o → b ∉ outer.filterMap (·.frame) → b ∉ (env :: outer).filterMap (·.frame) := fun b o e nm q => by
    rcases frames_mem hf q with z | z
    · rw [z, nL] at e; cases e
    · exact nm z
  obtain ⟨T₁, S₁⟩ := kts_turn_at (h := h') (fs := outer.filterMap (·.frame)) (g := h₀)
    (fun b hb => by
      obtain ⟨_, o, ho, _⟩ := B.frames.mem hb
      exact ⟨o, ho⟩)
    (fun b o e nm => F'.keep b o (T'.other b o (st b o e) (off1 b o e nm)))
    (fun b o e hm => by
      obtain ⟨sl', hs'⟩ := T'.up (st b o e)
      exact ⟨sl', F'.keep _ _ hs'⟩)
  have B₃ : Below A₀ base outer (ktsHeap h' (outer.filterMap (·.frame)) h₀) := ⟨B.stack, fun b o e => T₁.other b o (B.stays b o e) (fun hm => by
    rw [(B.frames.mem hm).1] at e; cases e), B.frames.of_keeps fun b o e _ => by
    obtain ⟨sl', hs'⟩ := T₁.up e
    exact ⟨_, hs', rfl⟩⟩
  have inG' : ∀ q ∈ rest, g'.get? q.1 = some q.2 := fun q hq => by
    have hN := N q (List.mem_append.mpr (.inr hq))
    refine T'.other _ _ (stays_in N hoff G q hq) fun hm => ?_
    rcases frames_mem hf hm with z | z
    · exact hN.2.1 z
    · obtain ⟨_, o, ho, _⟩ := B.frames.mem z
      rw [hN.2.2] at ho; cases ho
  refine hret v post h' tk' _ T₁ ⟨⟨_, es, ep, F'.keep _ _ hs, hLd, hLk, hLf⟩, S₁, by rw [T₁.size]; exact F.above⟩ (fun q hq => ?_) (fun q hq r hr e => ?_) hP B₃ (XB.keeps B₃.stays) (TB.keeps B₃.stays) (D.turn T₁)
  · rcases List.mem_append.mp hq with hq | hq
    · refine ⟨(N' q hq).1, fun z => ?_, T₁.none_ _ ?_⟩
      · have := (N' q hq).2.2; rw [z, hs] at this; cases this
      · cases e : h₀.get? q.1 with
        | none => rfl
        | some o =>
          obtain ⟨sl', hs'⟩ := T'.up (st _ _ e)
          have := (N' q hq).2.2
          rw [hs'] at this; cases this
    · have hN := N q (List.mem_append.mpr (.inr hq))
      exact ⟨F'.keep _ _ (inG' q hq), hN.2.1, T₁.none_ _ hN.2.2⟩
  · have h1 := (N' q hq).2.2
    rw [e, inG' r hr] at h1; cases h1

theorem dicts_in {g : Heap} (D : KtsDicts (outer.filterMap (·.frame)) h₀) (F : Fr h₀ L g m) (hf : env.frame = some L) : KtsDicts ((env :: outer).filterMap (·.frame)) g := fun b hb => by
  rcases frames_mem hf hb with z | z
  · subst z
    obtain ⟨oL, es, ep, hL, hd, _⟩ := F.ns
    exact ⟨oL, es, ep, hL, hd⟩
  · obtain ⟨o, es, n, ho, hd⟩ := D b z
    exact ⟨o, es, n, F.keep _ _ ho, hd⟩

theorem code_defT {E : Value → Shared → Prop} {name qual : Str} {params : Arguments} {body : List Stmt} {scope : Scope} {dV kV doc pm cdv ct oc : Value} {an od : Option Addr} {osl : Array (Option Value)} {f : Addr} {args : Args} {binds : List (Str × Value)}
    (B : Below A₀ base outer h₀) (F : Fr h₀ L s.heap m) (X₀ : K.In h₀) (N : News h₀ L s.heap (pre ++ rest)) (hoff : Off pre rest) (T : Top p loose mean mg mb h₀) (XB : K.In base) (TB : Top p loose mean mg mb base) (D : KtsDicts (outer.filterMap (·.frame)) h₀)
    (hA : A.frames = some (env :: outer)) (hf : env.frame = some L) (hke : env.scope.kind = .function)
    (ho : K.lookup f = some ⟨oc, od, .func (fnOf name qual params body scope dV kV doc pm an cdv ct), osl⟩) (hcd : codeIn K cdv qual = true) (hroom : A.depth < recursionLimit)
    (hbind : BindsTo s (fnOf name qual params body scope dV kV doc pm an cdv ct) args binds) (hloc : ∀ y ∈ binds, scope.names.lookup y.1 = some .local)
    (hret : ∀ (v : Value) (post : List (Addr × Obj)) (h' : Heap) (tk' : Nat) (h₀' : Heap), KtsTurn (outer.filterMap (·.frame)) h₀ h₀' → Fr h₀' L h' m → News h₀' L h' (post ++ rest) → Off post rest → Post v post → Below A₀ base outer h₀' → K.In h₀' → Top p loose mean mg mb h₀' → KtsDicts (outer.filterMap (·.frame)) h₀' → Q v { s with heap := h', toks := tk' })
    (h : ∀ g L' h₁, Fr h₀ L g m → Fr g L' h₁ (fun y => binds.reverse.lookup y) → News g L' h₁ pre → Below A base (env :: outer) g → K.In g → Top p loose mean mg mb g → GSub s.heap g (pre.map (·.1)) → KtsDicts ((env :: outer).filterMap (·.frame)) g →
      wpAny (model prog w) (A.deeper (envOf qual scope L' f cdv)) (execs body (envOf qual scope L' f cdv))
        (fun fl s' => OutT ((env :: outer).filterMap (·.frame)) g s Post (match fl with | .ret v => v | _ => .none) s')
        (fun e s' => wpAny (model prog w) (A.deeper (envOf qual scope L' f cdv)) (leaving (envOf qual scope L' f cdv) e) (fun _ s'' => E e s'') (fun e' s'' => E e' s'') s')
        { s with heap := h₁, toks := s.toks + binds.length })
    (hco : scope.isCoroutine = false) (hgen : scope.isGenerator = false) (hk : scope.kind = .function)
    (hcell : ∀ x ∈ scope.names, x.2 ≠ .cell) : codeAny (model prog w) A (.call (.ref f) args) (fun r s' => match r with | .ok (.ret v) => Q v s' | .ok _ => False | .error e => E e s') s := by
  have X := X₀.keeps F.keep
  obtain ⟨FG, BG, st, -⟩ := groundX (R := fun _ _ => True) B F (fun q hq => N q (List.mem_append.mpr (.inl hq))) hA hf hke
  refine codeAny_call_def (fd := fnOf name qual params body scope dV kV doc pm an cdv ct) (body := body) (binds := binds) hroom (X _ _ ho) rfl (T.nolimit.keeps F.keep) (codeRec_of X hcd) rfl hbind hcell hloc (fun h₁ hns hk₁ => ?_) hco hgen hk
  have G : GSub s.heap (hideAll s.heap (pre.map (·.1))) (pre.map (·.1)) := fun b o e n => hideAll_get _ e n
  refine wpAny_mono (h _ s.heap.objs.size h₁ FG ⟨hns, fun b o e => hk₁ b o (of_hideAll _ e), Nat.le_of_eq (hideAll_size _ _)⟩
    (fun q hq => ⟨hk₁ _ _ (N q (List.mem_append.mpr (.inl hq))).1, Nat.ne_of_lt (Heap.lt_size (N q (List.mem_append.mpr (.inl hq))).1), hideAll_none _ (List.mem_map_of_mem hq)⟩) BG (X₀.keeps st) (T.keeps st) G (dicts_in D FG hf)) (fun fl s' hl => ?_) fun _ _ y => y
  exact turned_back B F XB TB D N hoff hf FG G hret hl
end

/-- what a call of the text's def promises that may turn the outer frames' objects -/
noncomputable abbrev CallsT (w : World) (f : Addr) (vs : List Value) (dN uN : Nat) (pre : List (Addr × Obj)) (Hyp : Heap → Prop) (Post : Value → List (Addr × Obj) → Prop) : Prop :=
  ∀ (p : Program) (loose : List Str) (mean : ExcName → Option Value) (mg mb : Str → Option Value) (dp un : Nat) (gd : Option (List Code)) (cn : Str) (cs : Scope) (a : Addr) (ccd : Value) (cl : List (Str × Addr)) (outer : List Env) (A₀ : Around) (base h₀ : Heap) (L : Addr) (m : Str → Option Value) (rest : List (Addr × Obj)) (s : Shared) (Q E : Value → Shared → Prop),
    Below A₀ base outer h₀ → Fr h₀ L s.heap m → (Mine.hd.heap_39 w.params).In h₀ → News h₀ L s.heap (pre ++ rest) → Off pre rest → Top p loose mean mg mb h₀ → (Mine.hd.heap_39 w.params).In base → Top p loose mean mg mb base → KtsDicts (outer.filterMap (·.frame)) h₀ → cs.kind = .function →
    dp + dN < recursionLimit → un + uN < cLine → Hyp s.heap →
    (∀ (v : Value) (post : List (Addr × Obj)) (h' : Heap) (tk' : Nat) (h₀' : Heap), KtsTurn (outer.filterMap (·.frame)) h₀ h₀' → Fr h₀' L h' m → News h₀' L h' (post ++ rest) → Off post rest → Post v post → Below A₀ base outer h₀' → (Mine.hd.heap_39 w.params).In h₀' → Top p loose mean mg mb h₀' → KtsDicts (outer.filterMap (·.frame)) h₀' → Q v { s with heap := h', toks := tk' }) →
      wpAny (model PySem.Challenge.rw_pq1336_01.row.prog w) (ktrTop dp un gd cn cs L a ccd cl outer) (call (.ref f) vs) Q E s

section
variable {prog : Program} {w : World} {A₀ A : Around} {s : Shared} {base h₀ : Heap} {outer : List Env} {L : Addr} {m : Str → Option Value} {env : Env} {pre rest : List (Addr × Obj)} {Q : Value → Shared → Prop}
    {K : Frag} {p : Program} {loose : List Str} {mean : ExcName → Option Value} {mg mb : Str → Option Value} {Post : Value → List (Addr × Obj) → Prop}
theorem code_defTC {E : Value → Shared → Prop} {name qual : Str} {params : Arguments} {body : List Stmt} {scope : Scope} {dV kV doc pm cdv ct oc : Value} {an od : Option Addr} {osl : Array (Option Value)} {f : Addr} {args : Args} {binds : List (Str × Value)}
    (B : Below A₀ base outer h₀) (F : Fr h₀ L s.heap m) (X₀ : K.In h₀) (N : News h₀ L s.heap (pre ++ rest)) (hoff : Off pre rest) (T : Top p loose mean mg mb h₀) (XB : K.In base) (TB : Top p loose mean mg mb base) (D : KtsDicts (outer.filterMap (·.frame)) h₀)
    (hA : A.frames = some (env :: outer)) (hf : env.frame = some L) (hke : env.scope.kind = .function)
    (ho : K.lookup f = some ⟨oc, od, .func (fnOf name qual params body scope dV kV doc pm an cdv ct), osl⟩) (hcd : codeIn K cdv qual = true) (hroom : A.depth < recursionLimit)
    (hbind : BindsTo s (fnOf name qual params body scope dV kV doc pm an cdv ct) args binds) (hkind : (binds.all fun y => scope.names.lookup y.1 == some .local || scope.names.lookup y.1 == some .cell) = true)
    (hnd : ((cellsFrom 0 scope.names []).map (·.1)).Nodup)
    (hret : ∀ (v : Value) (post : List (Addr × Obj)) (h' : Heap) (tk' : Nat) (h₀' : Heap), KtsTurn (outer.filterMap (·.frame)) h₀ h₀' → Fr h₀' L h' m → News h₀' L h' (post ++ rest) → Off post rest → Post v post → Below A₀ base outer h₀' → K.In h₀' → Top p loose mean mg mb h₀' → KtsDicts (outer.filterMap (·.frame)) h₀' → Q v { s with heap := h', toks := tk' })
    (h : ∀ g L' h₁ tk cells, Fr h₀ L g m → Fr g L' h₁ (bindL (envOfC qual scope L' f cdv).kindOf binds fun _ => none) → News g L' h₁ (cells ++ pre) →
      CellsAre (bindC (envOfC qual scope L' f cdv).kindOf binds fun _ => none) (cellsFrom (L' + 1) scope.names []) cells → Below A base (env :: outer) g → K.In g → Top p loose mean mg mb g → (∀ p ∈ pre, p.1 < L') → GSub s.heap g (pre.map (·.1)) → KtsDicts ((env :: outer).filterMap (·.frame)) g →
      wpAny (model prog w) (A.deeper (envOfC qual scope L' f cdv)) (execs body (envOfC qual scope L' f cdv))
        (fun fl s' => OutT ((env :: outer).filterMap (·.frame)) g s Post (match fl with | .ret v => v | _ => .none) s')
        (fun e s' => wpAny (model prog w) (A.deeper (envOfC qual scope L' f cdv)) (leaving (envOfC qual scope L' f cdv) e) (fun _ s'' => E e s'') (fun e' s'' => E e' s'') s')
        { s with heap := h₁, toks := tk })
    (hco : scope.isCoroutine = false) (hgen : scope.isGenerator = false) (hk : scope.kind = .function) : codeAny (model prog w) A (.call (.ref f) args) (fun r s' => match r with | .ok (.ret v) => Q v s' | .ok _ => False | .error e => E e s') s := by
  have Np : ∀ q ∈ pre, (q ∈ pre ++ rest) := fun q hq => List.mem_append.mpr (.inl hq)
  obtain ⟨FG, BG, st, -⟩ := groundX (R := fun _ _ => True) B F (fun q hq => N q (Np q hq)) hA hf hke
  have hcd' := codeRec_of (X₀.keeps F.keep) hcd
  have hkind' := kindsX hkind
  refine codeAny_call_function (fd := fnX name qual params body scope [] dV kV doc pm an cdv ct) hroom ((X₀.keeps F.keep) _ _ ho) rfl hco hgen rfl hcd' (hbind _ _ _ _ ?_)
  refine wpAny_newFunctionEnv_cells hk (hkind' _) fun env' he s' x => ?_
  subst he
  refine ⟨(T.nolimit.keeps F.keep).keeps x.toInCall.keep, codeAny_func ?_⟩
  obtain ⟨h₁, tk, rfl, _⟩ := x.done
  have hk₁ := x.toInCall.keep
  obtain ⟨cells, NC, Y⟩ := Cl.news (h₀ := s.heap) (Nat.le_refl _) fun n c hm => ⟨x.cell n c (lookup_of_mem_nodup (cellsFrom_names scope.names 0 (s.heap.objs.size + 1) [] [] rfl ▸ hnd) hm), x.above n c hm⟩
  have G : GSub s.heap (hideAll s.heap (pre.map (·.1))) (pre.map (·.1)) := fun b o e n => hideAll_get _ e n
  refine wpAny_mono (h _ s.heap.objs.size h₁ tk cells FG ⟨x.toInCall.ns, fun b o e => hk₁ b o (of_hideAll _ e), Nat.le_of_eq (hideAll_size _ _)⟩ (fun q hq => ?_) Y BG (X₀.keeps st) (T.keeps st) (fun q hq => Heap.lt_size (N q (Np q hq)).1) G (dicts_in D FG hf)) (fun fl s' hl => ?_) fun _ _ y => y
  · rcases List.mem_append.mp hq with hq | hq
    · refine ⟨(NC q hq).1, (NC q hq).2.1, ?_⟩
      cases z : (hideAll s.heap (pre.map (·.1))).get? q.1 with
      | none => rfl
      | some o => have := of_hideAll _ z; rw [(NC q hq).2.2] at this; cases this
    · exact ⟨hk₁ _ _ (N q (Np q hq)).1, Nat.ne_of_lt (Heap.lt_size (N q (Np q hq)).1), hideAll_none _ (List.mem_map_of_mem hq)⟩
  · exact turned_back B F XB TB D N hoff hf FG G hret hl
theorem kts_nil {g g' h : Heap} {m : Str → Option Value} (T : KtsTurn [] g g') (F : Fr g' L h m) : Fr g L h m := ⟨F.ns, fun b o e => F.keep b o (T.other b o e (fun z => nomatch z)), by have := F.above; rw [T.size] at this; exact this⟩
theorem kts_nilN {g g' h : Heap} {news : List (Addr × Obj)} (T : KtsTurn [] g g') (N : News g' L h news) : News g L h news := fun q hq => ⟨(N q hq).1, (N q hq).2.1, by
  cases z : g.get? q.1 with
  | none => rfl
  | some o => have := T.other _ o z (fun z => nomatch z); rw [(N q hq).2.2] at this; cases this⟩
end

end

section
-- part Caught
section
variable {prog : Program} {w : World} {A₀ : Around} {E : Value → Shared → Prop} {s' : Shared} {base g G : Heap} {outer : List Env} {L a e D C : Addr} {od : Obj} {m : Str → Option Value} {name : Str} {scope : Scope} {cd : Value}
  {n : Str} {b₀ : Stmt} {suite : List Stmt} {pos np : Pos} {rest : List ExceptHandler} {Q : Flow → Shared → Prop} {KF : Frag}
  {p : Program} {loose : List Str} {mean : ExcName → Option Value} {mg mb : Str → Option Value} {x : Str}
/-- caught by the handler of its own class -/
theorem caughtD (R : RaisedD base G (envOf name scope L a cd :: outer) e (.ref C) D od s'.heap) (F : Fr g L G m) (K : Below A₀ base outer g) (hsm : G.UpToSlots s'.heap) (XB : KF.In base) (TB : Top p loose mean mg mb base) (Dk : KtsDicts (outer.filterMap (·.frame)) g)
    (ex : nsIn KF mainGlobals x = some (some (.ref C))) (q : ktsIn KF C "BaseException" = true)
    (k : ∀ h' g' vs sl tk, KtsTurn (outer.filterMap (·.frame)) g g' → Fr g' L h' (fun y => if y = n then some (.ref e) else m y) → News g' L h' [(e, ⟨.ref C, some D, .fields vs, sl⟩), (D, od)] → Below A₀ base outer g' → KF.In g' → Top p loose mean mg mb g' → KtsDicts (outer.filterMap (·.frame)) g' →
      wpAny (model prog w) ((A₀.deeper (envOf name scope L a cd)).mark (some (.ref e))) (execs (b₀ :: suite) (envOf name scope L a cd))
        (fun f s₄ => wpAny (model prog w) (A₀.deeper (envOf name scope L a cd)) (do bindName (envOf name scope L a cd) n .none; unbindBehindTheSuite (envOf name scope L a cd) n pos) (fun _ s₅ => Q f s₅) E s₄)
        (AsSuiteRaised (model prog w) ((A₀.deeper (envOf name scope L a cd)).mark (some (.ref e))) (envOf name scope L a cd) n pos (notedBy (model prog w) ((A₀.deeper (envOf name scope L a cd)).mark (some (.ref e))) (envOf name scope L a cd) (cameBackBy (model prog w) (A₀.deeper (envOf name scope L a cd)) (envOf name scope L a cd) E)))
        { s' with heap := h', toks := tk })
    (hk : scope.kind = .function := by rfl) (hlo : (envOf name scope L a cd).kindOf n = some .local := by rfl) (hx : (envOf name scope L a cd).kindOf x = some .globalImplicit := by rfl) (hd : (x == ("__debug__" : Str)) = false := by decide) :
    wpAny (model prog w) (A₀.deeper (envOf name scope L a cd)) (noteFrame (.ref e) (envOf name scope L a cd))
      (fun _ s₂ => wpAny (model prog w) (A₀.deeper (envOf name scope L a cd)) (setFlight (.ref e) none) (fun _ s₃ =>
        wpAny (model prog w) (A₀.deeper (envOf name scope L a cd)) (handleBy (.ref e) (envOf name scope L a cd) (.ExceptHandler (some (.Name x np)) (some n) (b₀ :: suite) pos :: rest)) Q E s₃) E s₂) E s' := by
  (first | (refine hideW ?_; intro gG9; obtain ⟨B, hB, hBG, ⟨hD, hDG⟩, heG, hfl⟩ := R; refine (?_ : wpAny _ _ _ _ _ _); clear gG9) | obtain ⟨B, hB, hBG, ⟨hD, hDG⟩, heG, hfl⟩ := R)
  have hL : B.get? L = none := by
    (first | (refine hideW ?_; intro gG9; obtain ⟨_, ⟨L', _, hf, hn', _⟩, _⟩ := hfl.2.2.1; refine (?_ : wpAny _ _ _ _ _ _); clear gG9) | obtain ⟨_, ⟨L', _, hf, hn', _⟩, _⟩ := hfl.2.2.1)
    obtain rfl : L = L' := Option.some.inj hf
    exact hn'
  refine noteD (Around.frames_deeper K.stack) rfl hfl fun h₄ x₄ u₄ => letGo x₄ fun h₅ x₅ u₅ => ?_
  have hsm₅ : s'.heap.UpToSlots h₅ := u₄.trans fun b o hb hn => ⟨o.slots, u₅ b o hb hn⟩
  (first | (refine hideW ?_; intro gG9; obtain ⟨g₅, T₅, F₅, K₅⟩ := kts_ground K F hBG x₅.1 (hsm.trans hsm₅); refine (?_ : wpAny _ _ _ _ _ _); clear gG9) | obtain ⟨g₅, T₅, F₅, K₅⟩ := kts_ground K F hBG x₅.1 (hsm.trans hsm₅))
  have X₅ : KF.In g₅ := XB.keeps K₅.stays
  have P₅ : TopRead p loose mg mb g₅ := topRead_of (TB.keeps K₅.stays)
  (first | (refine hideW ?_; intro gG9; obtain ⟨vs, sl, T, oT, ts, he, -⟩ := x₅.2.2.2; refine (?_ : wpAny _ _ _ _ _ _); clear gG9) | obtain ⟨vs, sl, T, oT, ts, he, -⟩ := x₅.2.2.2)
  (first | (refine hideW ?_; intro gG9; obtain ⟨nm, q', N, bs, bm, hdct, sn, sub, ab, col, dd, k0, k1, k2, k3, k5, newId, hC, hbase, hbT⟩ := kts_cls X₅ q; refine (?_ : wpAny _ _ _ _ _ _); clear gG9) | obtain ⟨nm, q', N, bs, bm, hdct, sn, sub, ab, col, dd, k0, k1, k2, k3, k5, newId, hC, hbase, hbT⟩ := kts_cls X₅ q)
  have hC₅ := F₅.keep _ _ hC
  refine wpAny_handleBy_cons (codeAny_handlers_test (name_K F₅ X₅ P₅ ex ?_ hk hx hd)) (by intro q; cases q)
  refine wpAny_excMatches_sub_self hC₅ he rfl hbase (codeAny_handlers_suite_as ?_)
  refine letGo x₅ fun h₆ x₆ u₆ => ?_
  have hsm₆ : h₅.UpToSlots h₆ := fun b o hb hn => ⟨o.slots, u₆ b o hb hn⟩
  (first | (refine hideW ?_; intro gG9; obtain ⟨g₆, T₆, F₆, K₆⟩ := kts_ground K F hBG x₆.1 ((hsm.trans hsm₅).trans hsm₆); refine (?_ : wpAny _ _ _ _ _ _); clear gG9) | obtain ⟨g₆, T₆, F₆, K₆⟩ := kts_ground K F hBG x₆.1 ((hsm.trans hsm₅).trans hsm₆))
  (first | (refine hideW ?_; intro gG9; obtain ⟨vs₆, sl₆, T', oT', ts', he₆, -⟩ := x₆.2.2.2; refine (?_ : wpAny _ _ _ _ _ _); clear gG9) | obtain ⟨vs₆, sl₆, T', oT', ts', he₆, -⟩ := x₆.2.2.2)
  have N₆ := News.more F₆ News.nil he₆ (fun es n q => by cases q) (T₆.none_ _ (kts_none F.keep heG))
  have Nl : News g₆ L h₆ [(D, od)] := fun q hq => by
    rw [List.mem_singleton.mp hq]
    exact ⟨x₆.1 _ _ hD, (fun z => by rw [show D = L from z, hL] at hD; cases hD), T₆.none_ _ (kts_none F.keep hDG)⟩
  refine stN F₆ (news := _ ++ [(D, od)]) (fun q hq => (List.mem_append.mp hq).elim (N₆ q) (Nl q)) (fun h₇ F₇ N₇ => ?_) hk hlo
  exact k h₇ g₆ _ _ _ T₆ F₇ N₇ K₆ (XB.keeps K₆.stays) (TB.keeps K₆.stays) (Dk.turn T₆)
end

end

section
-- part BStrX
set_option maxRecDepth 100000 in
set_option maxHeartbeats 4000000 in
theorem bstrX (w : World) (A U1 U2 Vx dX Ix Vb dB Ib : Addr) (k1 k2 n x1 x2 x3 x4 x5 xk xn b1 b2 b3 b4 b5 bk bn tb : Nat) (b : Int) (vs : List Value) (hb : b = 1 ∨ b = 37) (ho : Chain [Ix, dX, Vx, U1, Ib, dB, Vb, U2, A]) :
  RaisesOk w 655 [.none, .ref A, .none] 60 4000 ([(A, listOf #[.ref U1, .ref U2] n), (U2, tup [.str (Str.ofString "base") k2, .ref Vb]), (U1, tup [.str (Str.ofString "x") k1, .ref Vx]), (Vx, instObj 237 dX), (dX, dictOf (vecEs w x1 x2 x3 x4 x5 (Str.ofString "character") xk (.ref Ix)) 5), (Ix, listOf vs.toArray xn), (Vb, instObj 237 dB), (dB, dictOf (vecEs w b1 b2 b3 b4 b5 (Str.ofString "integer") bk (.ref Ib)) 5), (Ib, listOf #[.int b tb] bn)]) (fun _ => True)
    (Str.ofString "invalid 'base' argument") := by
  unfold RaisesOk
  have tg9 : Mine.Tg 51505 := tgI 51505
  k_fill
  intro p loose mean mg mb dp un gd cn cs a ccd cl outer A₀ base h₀ L m rest s Q E B F X N hoff T hk hd hu hy hE
  have hret : ∀ (v : Value) (post : List (Addr × Obj)) (h' : Heap) (tk' : Nat), Fr h₀ L h' m → News h₀ L h' (post ++ rest) → Off post rest → (fun (_ : Value) (_ : List (Addr × Obj)) => False) v post → Q v { s with heap := h', toks := tk' } := fun _ _ _ _ _ _ _ h => h.elim
  refine wpAny_call ?_
  have hS := desc_of ho
  simp only [Chain, and_true] at ho
  k_dflt (refine' code_defWC ?y0k1 ?y0k2 ?y0k3 ?y0k4 ?y0kO ?y0k5 ?y0kA ?y0kF ?y0kK ?y0k6 ?y0k7 ?y0k8 ?y0k9 ?y0kB ?y0kD ?y0kR ?_ ?y0c2 ?y0c3 ?y0c4; (case y0kA => exact rfl); (case y0kF => exact rfl); (case y0kK => assumption); (case y0k1 => k_asm); (case y0k2 => k_asm); (case y0k3 => k_asm); (case y0k4 => k_asm); (case y0kO => assumption); (case y0k5 => k_asm); (case y0k6 => k_is); (case y0k7 => k_is); (case y0k8 => ktr_room); (case y0k9 => first | exact BindsTo.of_eq rfl | exact binds_K (by k_in) rfl (by k_is) rfl rfl rfl); (case y0kB => exact rfl); (case y0kD => decide +kernel); (case y0kR => assumption); (case y0c2 => exact rfl); (case y0c3 => exact rfl); (case y0c4 => exact rfl); k_whole; intro g1 L1 h1 tk1 cells1 FG1 F1 N1 Y1 B1 X1 T1 l1 G1; (try k_lt l1); k_cells Y1; (try dsimp only [List.cons_append, List.nil_append] at N1); (try k_lift B1); (first | ((refine name_env2 ?_); intro tkE aA eE qk xE) | ((try dsimp only); (try k_fold); (try ((refine name_env ?_); intro aA eE xE)))))
  replace hS : Desc [L1 + 1, A, U2, Vb, dB, Ib, U1, Vx, dX, Ix] := Desc.cons (lt_up (by k_extra "lt")) hS
  have R1 := stays_in N hoff G1
  clear hret
  k_with "call ref" => guard_hyp tg9 : Mine.Tg 51505; ((with_reducible show wpAny _ _ (call (Value.ref 464) _) _ _ _); refine Halt.out ?_)
  k_steps
  rename_i oC _ _ _ _ Fo _ _ _ l8
  ((replace hS := Desc.cons (a := Fo) (by k_extra "lt") hS))
  unfold Halt
  have hof : Off ((Fo, listOf #[.str (Str.ofString "x") tkE, .str (Str.ofString "base") (tkE + 1)] 0) :: (A, listOf (argRefs [(U1, .str (Str.ofString "x") k1, .ref Vx), (U2, .str (Str.ofString "base") k2, .ref Vb)]).toArray n) :: argLed [(U1, .str (Str.ofString "x") k1, .ref Vx), (U2, .str (Str.ofString "base") k2, .ref Vb)]) [(L1 + 1, oC), (Vx, instObj 237 dX), (dX, dictOf (vecEs w x1 x2 x3 x4 x5 (Str.ofString "character") xk (.ref Ix)) 5), (Ix, listOf vs.toArray xn), (Vb, instObj 237 dB), (dB, dictOf (vecEs w b1 b2 b3 b4 b5 (Str.ofString "integer") bk (.ref Ib)) 5), (Ib, listOf #[.int b tb] bn)] := by
    show Off [(Fo, _), (A, _), (U1, _), (U2, _)] _
    k_extra "off"
  (((k_dflt (refine (useM hof (takeOk (fvs := [_, _]) tkA (osa2 (t := tkE) (u := tkE + 1)) (by decide) (by decide +kernel) (List.forall_mem_cons.mpr ⟨by k_extra "ne", List.forall_mem_cons.mpr ⟨by k_extra "ne", List.forall_mem_cons.mpr ⟨by k_extra "ne", List.forall_mem_nil _⟩⟩⟩))) (by k_asm) (by k_asm) (by k_asm) (by k_asm) (by k_asm) (by first | exact rfl | assumption) (by ktr_room) (by ktr_units) (by first | exact True.intro | assumption) (by first | exact fun _ h => h | kqd_sub) ?_)); intro v9 p9 h9 tk9 F9 N9 O9 P9))
  (first | (refine hideW ?_; intro gG9; obtain ⟨V8, c8, zq1, zq2⟩ := P9; refine (?_ : wpAny _ _ _ _ _ _); clear gG9; (first | subst zq1 | cases zq1); (first | subst zq2 | cases zq2)) | obtain ⟨V8, c8, rfl, rfl⟩ := P9)
  replace N9 := news_sub (l := [(V8, listOf #[.ref Vx, .ref Vb] c8), (L1 + 1, oC), (Vx, instObj 237 dX), (dX, dictOf (vecEs w x1 x2 x3 x4 x5 (Str.ofString "character") xk (.ref Ix)) 5), (Ix, listOf vs.toArray xn), (Vb, instObj 237 dB), (dB, dictOf (vecEs w b1 b2 b3 b4 b5 (Str.ofString "integer") bk (.ref Ib)) 5), (Ib, listOf #[.int b tb] bn)]) N9 (by kqd_sub)
  k_with "call ref" => guard_hyp tg9 : Mine.Tg 51505; ((with_reducible show wpAny _ _ (call (Value.ref 593) _) _ _ _); refine Halt.out ?_)
  k_steps
  unfold Halt
  have hof2 : Off (vecL w Vb dB Ib b1 b2 b3 b4 b5 bk bn (Str.ofString "integer") [.int b tb]) [(L1 + 1, oC), (Vx, instObj 237 dX), (dX, dictOf (vecEs w x1 x2 x3 x4 x5 (Str.ofString "character") xk (.ref Ix)) 5), (Ix, listOf vs.toArray xn)] := by k_extra "off"
  (((k_dflt (refine (useM hof2 (wholeInt_ok w Vb dB Ib b1 b2 b3 b4 b5 bk bn b tb _ _ (by (exact om209 (by k_asm))))) (by k_asm) (by k_asm) (by k_asm) (by k_asm) (by k_asm) (by first | exact rfl | assumption) (by ktr_room) (by ktr_units) (by first | exact True.intro | assumption) (by first | exact fun _ h => h | kqd_sub) ?_)); intro v9 p9 h9 tk9 F9 N9 O9 P9))
  obtain ⟨⟨t8, rfl⟩, rfl⟩ := P9
  dsimp only [vecL, List.cons_append, List.nil_append] at N9
  k_with "execs cons" => guard_hyp tg9 : Mine.Tg 51505; ((with_reducible show wpAny _ _ (execs (Stmt.Raise _ _ _ :: _) _) _ _ _); refine Halt.out ?_)
  have X9 : (Mine.hd.heap_39 w.params).In g1 := X1
  (first | (refine hideW ?_; intro gG9; obtain ⟨nm, q, bs, hdct, sn, sub, ab, col, dd, k0, k1, k2, k3, k5, ho37⟩ := refuse_class w; refine (?_ : wpAny _ _ _ _ _ _); clear gG9) | obtain ⟨nm, q, bs, hdct, sn, sub, ab, col, dd, k0, k1, k2, k3, k5, ho37⟩ := refuse_class w)
  k_with "call ref" => guard_hyp tg9 : Mine.Tg 51505; ((with_reducible show wpAny _ _ (call (Value.ref 370) _) _ _ _); refine Halt.out ?_)
  rcases hb with rfl | rfl
  all_goals
    k_steps
    unfold Halt
    refine wpAny_execs_cons ?_
    refine exc_Raise (C := 370) (N := 369) (bm := [.ref 350, .type "Exception", .type "BaseException", .type "object"]) (nm := nm) (q := q) (bs := bs) (hdct := hdct) (sn := sn) (sub := sub) (ab := ab) (col := col) (dd := dd) (k0 := k0) (k1 := k1) (k2 := k2) (k3 := k3) (k5 := k5) (newId := "Exception.__new__") (by decide) rfl ?_
    k_steps
    unfold Halt
    k_dflt (refine' raise_now w _ _ ?a1 ?a2 ?a3 ?a4 ?a5 ?a6 ?a7 ?a8 ho37 ?a9 ?a10 ?a11 ?_; (case a1 => k_asm); (case a2 => k_asm); (case a3 => k_asm); (case a4 => k_asm); (case a5 => k_asm); (case a6 => exact rfl); (case a7 => ktr_room); (case a8 => ktr_units); (case a9 => exact rfl); (case a10 => exact rfl); (case a11 => exact rfl))
    intro e9 D9 tm9 tk9 h9 tk8 R9 U9
    exact hE e9 D9 tm9 tk9 g1 h9 tk8 FG1 R1 R9 U9

end

section
-- part RaiseK
/-- the same where some of its part of the ledger is as it was -/
noncomputable abbrev RaisesK (w : World) (f : Addr) (vs : List Value) (dN uN : Nat) (pre kept : List (Addr × Obj)) (Hyp : Heap → Prop) (x : Str) : Prop :=
  ∀ (p : Program) (loose : List Str) (mean : ExcName → Option Value) (mg mb : Str → Option Value) (dp un : Nat) (gd : Option (List Code)) (cn : Str) (cs : Scope) (a : Addr) (ccd : Value) (cl : List (Str × Addr)) (outer : List Env) (A₀ : Around) (base h₀ : Heap) (L : Addr) (m : Str → Option Value) (rest : List (Addr × Obj)) (s : Shared) (Q E : Value → Shared → Prop),
    Below A₀ base outer h₀ → Fr h₀ L s.heap m → (Mine.hd.heap_39 w.params).In h₀ → News h₀ L s.heap (pre ++ rest) → Off pre rest → Top p loose mean mg mb h₀ → cs.kind = .function →
    dp + dN < recursionLimit → un + uN < cLine → Hyp s.heap →
    (∀ (e D : Addr) (tm tk : Tok) (G h' : Heap) (tk' : Nat), Fr h₀ L G m → (∀ q ∈ rest, G.get? q.1 = some q.2) → (∀ q ∈ kept, G.get? q.1 = some q.2) → RaisedD base G (envX cn cs L a ccd cl :: outer) e (.ref 370) D (msgO w x tm tk) h' → G.UpToSlots h' → E (.ref e) { s with heap := h', toks := tk' }) →
      wpAny (model PySem.Challenge.rw_pq1336_01.row.prog w) (ktrTop dp un gd cn cs L a ccd cl outer) (call (.ref f) vs) Q E s

end

section
-- part BChrX
theorem RaisesK.sub {w : World} {f : Addr} {vs : List Value} {dN uN : Nat} {pre pre' kept : List (Addr × Obj)} {Hyp : Heap → Prop} {x : Str} (H : RaisesK w f vs dN uN pre kept Hyp x) (h : ∀ q ∈ pre, q ∈ pre') : RaisesK w f vs dN uN pre' kept Hyp x := by
  intro p loose mean mg mb dp un gd cn cs a ccd cl outer A₀ base h₀ L m rest s Q E B F X N hoff T hk hd hu hy hE
  exact H p loose mean mg mb dp un gd cn cs a ccd cl outer A₀ base h₀ L m rest s Q E B F X (news_sub N fun q hq => (List.mem_append.mp hq).elim (fun m => List.mem_append_left _ (h q m)) fun m => List.mem_append_right _ m) (fun a ha b hb => hoff a (h a ha) b hb) T hk hd hu hy hE
set_option maxRecDepth 100000 in
set_option maxHeartbeats 4000000 in
theorem bchrR (w : World) (A Vo dO Io Vn dN Jn Vx dX Ix : Addr) (us : List Arg3) (n o1 o2 o3 o4 o5 ok on n1 n2 n3 n4 n5 nk nn x1 x2 x3 x4 x5 xk xn t1 t2 tz : Nat) (x y z msg : Str)
    (cL : Addr) (oL : Obj) (vL : Array Value) (tL : Tok) (hL : LamCode oL vL tL) (hT : TakeOk us [Str.ofString "old", Str.ofString "new", Str.ofString "x"] [.ref Vo, .ref Vn, .ref Vx])
    (hR : ∀ t1 t2 tv, RaisesOk w 619 [.str x t1, .str y t2, tv] 40 2400 [] (fun _ => True) msg)
    (hO : Off ((A, listOf (argRefs us).toArray n) :: argLed us) [(Vo, instObj 237 dO), (dO, dictOf (vecEs w o1 o2 o3 o4 o5 (Str.ofString "character") ok (.ref Io)) 5), (Io, listOf #[.str x t1] on), (Vn, instObj 237 dN), (dN, dictOf (vecEs w n1 n2 n3 n4 n5 (Str.ofString "character") nk (.ref Jn)) 5), (Jn, listOf #[.str y t2] nn), (Vx, instObj 237 dX), (dX, dictOf (vecEs w x1 x2 x3 x4 x5 (Str.ofString "character") xk (.ref Ix)) 5), (Ix, listOf #[.str z tz] xn), (657, lamTab cL), (cL, oL)]) (hD : Dist [Vo, dO, Io, Vn, dN, Jn, Vx, dX, Ix, 657, cL]) :
  RaisesK w 662 [.none, .ref A, .none] 60 4000 ((A, listOf (argRefs us).toArray n) :: ([(Vo, instObj 237 dO), (dO, dictOf (vecEs w o1 o2 o3 o4 o5 (Str.ofString "character") ok (.ref Io)) 5), (Io, listOf #[.str x t1] on), (Vn, instObj 237 dN), (dN, dictOf (vecEs w n1 n2 n3 n4 n5 (Str.ofString "character") nk (.ref Jn)) 5), (Jn, listOf #[.str y t2] nn), (Vx, instObj 237 dX), (dX, dictOf (vecEs w x1 x2 x3 x4 x5 (Str.ofString "character") xk (.ref Ix)) 5), (Ix, listOf #[.str z tz] xn), (657, lamTab cL), (cL, oL)] ++ argLed us)) [(657, lamTab cL), (cL, oL)] (fun h => CodeHd h 661 657) msg := by
  unfold RaisesK
  have tg9 : Mine.Tg 56265 := tgI 56265
  k_fill
  intro p loose mean mg mb dp un gd cn cs a ccd cl outer A₀ base h₀ L m rest s Q E B F X N hoff T hk hd hu hy hE
  have hret : ∀ (v : Value) (post : List (Addr × Obj)) (h' : Heap) (tk' : Nat), Fr h₀ L h' m → News h₀ L h' (post ++ rest) → Off post rest → (fun (_ : Value) (_ : List (Addr × Obj)) => False) v post → Q v { s with heap := h', toks := tk' } := fun _ _ _ _ _ _ _ h => h.elim
  refine wpAny_call ?_
  k_dflt (refine' code_defWC ?y0k1 ?y0k2 ?y0k3 ?y0k4 ?y0kO ?y0k5 ?y0kA ?y0kF ?y0kK ?y0k6 ?y0k7 ?y0k8 ?y0k9 ?y0kB ?y0kD ?y0kR ?_ ?y0c2 ?y0c3 ?y0c4; (case y0kA => exact rfl); (case y0kF => exact rfl); (case y0kK => assumption); (case y0k1 => k_asm); (case y0k2 => k_asm); (case y0k3 => k_asm); (case y0k4 => k_asm); (case y0kO => assumption); (case y0k5 => k_asm); (case y0k6 => k_is); (case y0k7 => k_is); (case y0k8 => ktr_room); (case y0k9 => first | exact BindsTo.of_eq rfl | exact binds_K (by k_in) rfl (by k_is) rfl rfl rfl); (case y0kB => exact rfl); (case y0kD => decide +kernel); (case y0kR => assumption); (case y0c2 => exact rfl); (case y0c3 => exact rfl); (case y0c4 => exact rfl); k_whole; intro g1 L1 h1 tk1 cells1 FG1 F1 N1 Y1 B1 X1 T1 l1 G1; (try k_lt l1); k_cells Y1; (try dsimp only [List.cons_append, List.nil_append] at N1); (try k_lift B1); (first | ((refine name_env2 ?_); intro tkE aA eE qk xE) | ((try dsimp only); (try k_fold); (try ((refine name_env ?_); intro aA eE xE)))))
  have R1 := stays_in N hoff G1
  have nf1 : (657 : Addr) ≠ L1 ∧ cL ≠ L1 := ⟨(N1 (657, lamTab cL) (by k_mem)).2.1, (N1 (cL, oL) (by k_mem)).2.1⟩
  clear hret
  have C6 : CodeHd g1 661 657 := codeHd_g hy G1 N (fun a ha => by rw [List.map_append]; exact List.mem_append_left _ ha) (X 661 _ (by k_is))
  k_with "call ref" => guard_hyp tg9 : Mine.Tg 56265; ((with_reducible show wpAny _ _ (call (Value.ref 464) _) _ _ _); refine Halt.out ?_)
  k_steps
  rename_i oC oC2 dC dC2 _ _ _ Fo _ _ _ l8
  unfold Halt
  have inA : ∀ q ∈ (A, listOf (argRefs us).toArray n) :: argLed us, q ∈ (A, listOf (argRefs us).toArray n) :: ([(Vo, instObj 237 dO), (dO, dictOf (vecEs w o1 o2 o3 o4 o5 (Str.ofString "character") ok (.ref Io)) 5), (Io, listOf #[.str x t1] on), (Vn, instObj 237 dN), (dN, dictOf (vecEs w n1 n2 n3 n4 n5 (Str.ofString "character") nk (.ref Jn)) 5), (Jn, listOf #[.str y t2] nn), (Vx, instObj 237 dX), (dX, dictOf (vecEs w x1 x2 x3 x4 x5 (Str.ofString "character") xk (.ref Ix)) 5), (Ix, listOf #[.str z tz] xn), (657, lamTab cL), (cL, oL)] ++ argLed us) := fun q hq => (List.mem_cons.mp hq).elim (fun e => e ▸ .head _) fun m => .tail _ (List.mem_append_right _ m)
  have inV : ∀ q ∈ [(Vo, instObj 237 dO), (dO, dictOf (vecEs w o1 o2 o3 o4 o5 (Str.ofString "character") ok (.ref Io)) 5), (Io, listOf #[.str x t1] on), (Vn, instObj 237 dN), (dN, dictOf (vecEs w n1 n2 n3 n4 n5 (Str.ofString "character") nk (.ref Jn)) 5), (Jn, listOf #[.str y t2] nn), (Vx, instObj 237 dX), (dX, dictOf (vecEs w x1 x2 x3 x4 x5 (Str.ofString "character") xk (.ref Ix)) 5), (Ix, listOf #[.str z tz] xn), (657, lamTab cL), (cL, oL)], q ∈ (A, listOf (argRefs us).toArray n) :: ([(Vo, instObj 237 dO), (dO, dictOf (vecEs w o1 o2 o3 o4 o5 (Str.ofString "character") ok (.ref Io)) 5), (Io, listOf #[.str x t1] on), (Vn, instObj 237 dN), (dN, dictOf (vecEs w n1 n2 n3 n4 n5 (Str.ofString "character") nk (.ref Jn)) 5), (Jn, listOf #[.str y t2] nn), (Vx, instObj 237 dX), (dX, dictOf (vecEs w x1 x2 x3 x4 x5 (Str.ofString "character") xk (.ref Ix)) 5), (Ix, listOf #[.str z tz] xn), (657, lamTab cL), (cL, oL)] ++ argLed us) := fun q hq => .tail _ (List.mem_append_left _ hq)
  have lV : ∀ q ∈ [(Vo, instObj 237 dO), (dO, dictOf (vecEs w o1 o2 o3 o4 o5 (Str.ofString "character") ok (.ref Io)) 5), (Io, listOf #[.str x t1] on), (Vn, instObj 237 dN), (dN, dictOf (vecEs w n1 n2 n3 n4 n5 (Str.ofString "character") nk (.ref Jn)) 5), (Jn, listOf #[.str y t2] nn), (Vx, instObj 237 dX), (dX, dictOf (vecEs w x1 x2 x3 x4 x5 (Str.ofString "character") xk (.ref Ix)) 5), (Ix, listOf #[.str z tz] xn), (657, lamTab cL), (cL, oL)], @LT.lt Nat _ q.1 L1 := fun q hq => l1 q (inV q hq)
  have hS : Dist [L1 + 1 + 1, L1 + 1, Vo, dO, Io, Vn, dN, Jn, Vx, dX, Ix, 657, cL] := dist_new (fun a ha => by
    (first | (refine hideW ?_; intro gG9; obtain ⟨q, hq, zq1⟩ := List.mem_map.mp (show a ∈ ([(Vo, instObj 237 dO), (dO, dictOf (vecEs w o1 o2 o3 o4 o5 (Str.ofString "character") ok (.ref Io)) 5), (Io, listOf #[.str x t1] on), (Vn, instObj 237 dN), (dN, dictOf (vecEs w n1 n2 n3 n4 n5 (Str.ofString "character") nk (.ref Jn)) 5), (Jn, listOf #[.str y t2] nn), (Vx, instObj 237 dX), (dX, dictOf (vecEs w x1 x2 x3 x4 x5 (Str.ofString "character") xk (.ref Ix)) 5), (Ix, listOf #[.str z tz] xn), (657, lamTab cL), (cL, oL)] : List (Addr × Obj)).map (·.1) from ha); refine (?_ : wpAny _ _ _ _ _ _); clear gG9; (first | subst zq1 | cases zq1)) | obtain ⟨q, hq, rfl⟩ := List.mem_map.mp (show a ∈ ([(Vo, instObj 237 dO), (dO, dictOf (vecEs w o1 o2 o3 o4 o5 (Str.ofString "character") ok (.ref Io)) 5), (Io, listOf #[.str x t1] on), (Vn, instObj 237 dN), (dN, dictOf (vecEs w n1 n2 n3 n4 n5 (Str.ofString "character") nk (.ref Jn)) 5), (Jn, listOf #[.str y t2] nn), (Vx, instObj 237 dX), (dX, dictOf (vecEs w x1 x2 x3 x4 x5 (Str.ofString "character") xk (.ref Ix)) 5), (Ix, listOf #[.str z tz] xn), (657, lamTab cL), (cL, oL)] : List (Addr × Obj)).map (·.1) from ha))
    exact lV q hq) hD
  have hof : Off ((Fo, listOf #[.str (Str.ofString "old") tkE, .str (Str.ofString "new") (tkE + 1), .str (Str.ofString "x") (tkE + 1 + 1)] 0) :: (A, listOf (argRefs us).toArray n) :: argLed us) ((L1 + 1 + 1, oC) :: (L1 + 1, oC2) :: [(Vo, instObj 237 dO), (dO, dictOf (vecEs w o1 o2 o3 o4 o5 (Str.ofString "character") ok (.ref Io)) 5), (Io, listOf #[.str x t1] on), (Vn, instObj 237 dN), (dN, dictOf (vecEs w n1 n2 n3 n4 n5 (Str.ofString "character") nk (.ref Jn)) 5), (Jn, listOf #[.str y t2] nn), (Vx, instObj 237 dX), (dX, dictOf (vecEs w x1 x2 x3 x4 x5 (Str.ofString "character") xk (.ref Ix)) 5), (Ix, listOf #[.str z tz] xn), (657, lamTab cL), (cL, oL)]) := off_cons (List.forall_mem_cons.mpr ⟨gt_ne (lt_in l8 (by k_mem)), List.forall_mem_cons.mpr ⟨gt_ne (lt_in l8 (by k_mem)), fun q hq => Nat.ne_of_gt (l8 q (.tail _ (.tail _ (inV q hq))))⟩⟩) (off_consR (fun q hq => lt_ne (lt_up (lt_up (l1 q (inA q hq))))) (off_consR (fun q hq => lt_ne (lt_up (l1 q (inA q hq)))) hO))
  (((k_dflt (refine (useM hof (takeOk (fvs := [_, _, _]) hT (osa3 (t := tkE) (u := tkE + 1) (v := tkE + 1 + 1)) (by decide) (by decide +kernel) (fun q hq => Nat.ne_of_gt (l8 q (.tail _ (.tail _ (inA q hq))))))) (by k_asm) (by k_asm) (by k_asm) (by k_asm) (by k_asm) (by first | exact rfl | assumption) (by ktr_room) (by ktr_units) (by first | exact True.intro | assumption) (by first | exact fun _ h => h | kqd_sub) ?_)); intro v9 p9 h9 tk9 F9 N9 O9 P9))
  (first | (refine hideW ?_; intro gG9; obtain ⟨V8, c8, zq1, zq2⟩ := P9; refine (?_ : wpAny _ _ _ _ _ _); clear gG9; (first | subst zq1 | cases zq1); (first | subst zq2 | cases zq2)) | obtain ⟨V8, c8, rfl, rfl⟩ := P9)
  replace N9 := news_sub (l := (V8, listOf #[.ref Vo, .ref Vn, .ref Vx] c8) :: (L1 + 1 + 1, oC) :: (L1 + 1, oC2) :: [(Vo, instObj 237 dO), (dO, dictOf (vecEs w o1 o2 o3 o4 o5 (Str.ofString "character") ok (.ref Io)) 5), (Io, listOf #[.str x t1] on), (Vn, instObj 237 dN), (dN, dictOf (vecEs w n1 n2 n3 n4 n5 (Str.ofString "character") nk (.ref Jn)) 5), (Jn, listOf #[.str y t2] nn), (Vx, instObj 237 dX), (dX, dictOf (vecEs w x1 x2 x3 x4 x5 (Str.ofString "character") xk (.ref Ix)) 5), (Ix, listOf #[.str z tz] xn), (657, lamTab cL), (cL, oL)]) N9 (List.forall_mem_cons.mpr ⟨.head _, fun q hq => List.mem_append_right _ hq⟩)
  clear hof
  k_with "call ref" => guard_hyp tg9 : Mine.Tg 56265; ((with_reducible show wpAny _ _ (call (Value.ref 586) _) _ _ _); (((k_dflt (refine use0 (needed_ok w _ _ _) (by k_asm) (by k_asm) (by k_asm) (by k_asm) (by k_asm) (by first | exact rfl | assumption) (by ktr_room) (by ktr_units) (by first | exact True.intro | assumption) ?_)); intro v9 p9 h9 tk9 F9 N9 O9 P9)); (obtain ⟨e8, e9⟩ := P9); subst e8 e9; (dsimp only [List.nil_append] at N9))
  k_with "call ref" => guard_hyp tg9 : Mine.Tg 56265; ((with_reducible show wpAny _ _ (call (Value.ref 645) _) _ _ _); refine Halt.out ?_)
  k_steps
  unfold Halt
  have hof2 : Off (vecL w Vo dO Io o1 o2 o3 o4 o5 ok on (Str.ofString "character") [.str x t1]) [(L1 + 1 + 1, oC), (L1 + 1, oC2), (Vn, instObj 237 dN), (dN, dictOf (vecEs w n1 n2 n3 n4 n5 (Str.ofString "character") nk (.ref Jn)) 5), (Jn, listOf #[.str y t2] nn), (Vx, instObj 237 dX), (dX, dictOf (vecEs w x1 x2 x3 x4 x5 (Str.ofString "character") xk (.ref Ix)) 5), (Ix, listOf #[.str z tz] xn), (657, lamTab cL), (cL, oL)] := by k_extra "off"
  (((k_dflt (refine (useM hof2 (one_ok w Vo dO Io o1 o2 o3 o4 o5 ok on x (Str.ofString "old") (Str.ofString "") t1 _ _)) (by k_asm) (by k_asm) (by k_asm) (by k_asm) (by k_asm) (by first | exact rfl | assumption) (by ktr_room) (by ktr_units) (by first | exact True.intro | assumption) (by first | exact fun _ h => h | kqd_sub) ?_)); intro v9 p9 h9 tk9 F9 N9 O9 P9))
  obtain ⟨rfl, rfl⟩ := P9
  replace N9 := news_sub (l := [(L1 + 1 + 1, oC), (L1 + 1, oC2), (Vn, instObj 237 dN), (dN, dictOf (vecEs w n1 n2 n3 n4 n5 (Str.ofString "character") nk (.ref Jn)) 5), (Jn, listOf #[.str y t2] nn), (Vx, instObj 237 dX), (dX, dictOf (vecEs w x1 x2 x3 x4 x5 (Str.ofString "character") xk (.ref Ix)) 5), (Ix, listOf #[.str z tz] xn), (657, lamTab cL), (cL, oL)]) N9 (fun q hq => List.mem_append_right _ hq)
  clear hof2
  k_steps
  rename_i oB _ _ dB _ _ _
  unfold Halt
  have hof3 : Off (vecL w Vn dN Jn n1 n2 n3 n4 n5 nk nn (Str.ofString "character") [.str y t2]) [(L1 + 1 + 1, oC), (L1 + 1, oB), (Vx, instObj 237 dX), (dX, dictOf (vecEs w x1 x2 x3 x4 x5 (Str.ofString "character") xk (.ref Ix)) 5), (Ix, listOf #[.str z tz] xn), (657, lamTab cL), (cL, oL)] := by k_extra "off"
  (((k_dflt (refine (useM hof3 (one_ok w Vn dN Jn n1 n2 n3 n4 n5 nk nn y (Str.ofString "new") (Str.ofString "") t2 _ _)) (by k_asm) (by k_asm) (by k_asm) (by k_asm) (by k_asm) (by first | exact rfl | assumption) (by ktr_room) (by ktr_units) (by first | exact True.intro | assumption) (by first | exact fun _ h => h | kqd_sub) ?_)); intro v9 p9 h9 tk9 F9 N9 O9 P9))
  obtain ⟨rfl, rfl⟩ := P9
  replace N9 := news_sub (l := [(L1 + 1 + 1, oC), (L1 + 1, oB), (Vx, instObj 237 dX), (dX, dictOf (vecEs w x1 x2 x3 x4 x5 (Str.ofString "character") xk (.ref Ix)) 5), (Ix, listOf #[.str z tz] xn), (657, lamTab cL), (cL, oL)]) N9 (fun q hq => List.mem_append_right _ hq)
  clear hof3
  k_with "eval ListComp Call cons" => guard_hyp tg9 : Mine.Tg 56265; refine Halt.out ?_
  have dL1 := hL.1
  have dL2 : vL[1]? = some (.str ((envOfC (Str.ofString "b_chartr") default L1 662 (Value.ref 661)).qual ++ Str.ofString "<lambda>") tL) := hL.2
  k_steps
  rename_i oE _ _ dE _ _ fL _ _ _ _ _ lf gm Lm hm1 tkm FGm Fm Bm Xm Tm lm om dm Nm _ _
  have hS4 : Dist [L1 + 1 + 1, L1 + 1, Vx, dX, Ix, 657, cL] := dist_at hS [0, 1, 8, 9, 10, 11, 12] rfl rfl
  replace hS : Dist [Lm + 1, fL, L1 + 1 + 1, L1 + 1, Vx, dX, Ix, 657, cL] := ⟨fun b hb => by
    (first | (refine hideW ?_; intro gG9; obtain ⟨q, hq, zq1⟩ := List.mem_map.mp (show b ∈ ((fL, _) :: [(L1 + 1 + 1, oE), (L1 + 1, oB), (Vx, instObj 237 dX), (dX, dictOf (vecEs w x1 x2 x3 x4 x5 (Str.ofString "character") xk (.ref Ix)) 5), (Ix, listOf #[.str z tz] xn), (657, lamTab cL), (cL, oL)]).map (·.1) from hb); refine (?_ : wpAny _ _ _ _ _ _); clear gG9; (first | subst zq1 | cases zq1)) | obtain ⟨q, hq, rfl⟩ := List.mem_map.mp (show b ∈ ((fL, _) :: [(L1 + 1 + 1, oE), (L1 + 1, oB), (Vx, instObj 237 dX), (dX, dictOf (vecEs w x1 x2 x3 x4 x5 (Str.ofString "character") xk (.ref Ix)) 5), (Ix, listOf #[.str z tz] xn), (657, lamTab cL), (cL, oL)]).map (·.1) from hb))
    exact gt_ne (lt_up (lm q hq)), fun b hb => by
    (first | (refine hideW ?_; intro gG9; obtain ⟨q, hq, zq1⟩ := List.mem_map.mp (show b ∈ [(L1 + 1 + 1, oE), (L1 + 1, oB), (Vx, instObj 237 dX), (dX, dictOf (vecEs w x1 x2 x3 x4 x5 (Str.ofString "character") xk (.ref Ix)) 5), (Ix, listOf #[.str z tz] xn), (657, lamTab cL), (cL, oL)].map (·.1) from hb); refine (?_ : wpAny _ _ _ _ _ _); clear gG9; (first | subst zq1 | cases zq1)) | obtain ⟨q, hq, rfl⟩ := List.mem_map.mp (show b ∈ [(L1 + 1 + 1, oE), (L1 + 1, oB), (Vx, instObj 237 dX), (dX, dictOf (vecEs w x1 x2 x3 x4 x5 (Str.ofString "character") xk (.ref Ix)) 5), (Ix, listOf #[.str z tz] xn), (657, lamTab cL), (cL, oL)].map (·.1) from hb))
    exact Nat.ne_of_gt (lf q hq), hS4⟩
  clear hS4
  unfold Halt
  k_dflt (refine' ListComp_X (F₀ := ?kF) ?k1 ?k2 ?k3 ?k4 ?k5 ?_)
  case k1 => with_unfolding_all rfl
  case k2 => decide
  case k3 => rfl
  case k4 => decide
  case k5 => rfl
  case kF => k_asm
  k_with "call ref" => guard_hyp tg9 : Mine.Tg 56265; ((with_reducible show wpAny _ _ (call (Value.ref 638) _) _ _ _); refine Halt.out ?_)
  k_steps
  unfold Halt
  (((k_dflt (refine useP (texts_ok w Vx dX Ix x1 x2 x3 x4 x5 xk xn [.str z tz] (by show 1 ≤ 100; decide)) (by k_asm) (by k_asm) (by k_asm) (by k_asm) (by k_asm) (by first | exact rfl | assumption) (by ktr_room) (by ktr_units) (by first | exact True.intro | assumption | exact PySem.W.CodeHd.keeps (by assumption) (Fr.keep (by assumption))) (by k_extra "pkA") (by k_extra "off") ?_)); intro v9 p9 h9 tk9 F9 N9 O9 P9))
  (first | (refine hideW ?_; intro gG9; obtain ⟨D8, c8, zq1, zq2⟩ := P9; refine (?_ : wpAny _ _ _ _ _ _); clear gG9; (first | subst zq1 | cases zq1); (first | subst zq2 | cases zq2)) | obtain ⟨D8, c8, rfl, rfl⟩ := P9)
  dsimp only [vecL, List.cons_append, List.nil_append] at N9
  refine ⟨D8, #[.str z tz], c8, _, .str z tz, rfl, rfl, F9, N9, by k_mem, rfl, ?_⟩
  intro I oI C oC3 D m₂ h11 tk11 hC hx2 F10 N10 off10 ne10
  k_with "call ref" => guard_hyp tg9 : Mine.Tg 56265; ((with_reducible show wpAny _ _ (call (Value.ref 619) _) _ _ _); refine Halt.out ?_)
  k_steps
  unfold Halt
  rename_i gl Ll hl FGl Fl Nl Bl Xl Tl
  (((k_dflt (refine (useR (hR _ _ _)) (by k_asm) (by k_asm) (by k_asm) (by k_asm) (by k_asm) (by first | exact rfl | assumption) (by ktr_room) (by ktr_units) (by first | exact True.intro | assumption) ?_)); intro e9 D9 tm9 tk9 G9 h9 tk8 FG9 hR9 R9 U9))
  (first | (refine hideW ?_; intro gG9; obtain ⟨Bx, hBx, hBG, hDx, hex, hfl⟩ := R9; refine (?_ : wpAny _ _ _ _ _ _); clear gG9) | obtain ⟨Bx, hBx, hBG, hDx, hex, hfl⟩ := R9)
  have hC9 : G9.get? C = some oC3 := hR9 (C, oC3) (.tail _ (.head _))
  have hCm := N10 (C, oC3) (.tail _ (.head _))
  have hCl := Nl (C, oC3) (.tail _ (.head _))
  have sub : ∀ b o, g1.get? b = some o → G9.get? b = some o := fun b o q => FG9.keep b o (FGl.keep b o (FGm.keep b o q))
  have hBC : Bx.get? C = some oC3 := hBG C oC3 hC9 fun hm => by
    rcases frames_mem rfl hm with z | hm
    · exact hCl.2.1 z
    · rcases frames_mem rfl hm with z | hm
      · exact hCm.2.1 z
      · obtain ⟨_, o, ho, _⟩ := Bm.frames.mem hm
        rw [hCm.2.2] at ho; cases ho
  refine leaveD rfl rfl hfl fun h7 x7 u7 => ?_
  refine ⟨e9, .ref 370, some D9, Bx, _, rfl, rfl, rfl, x7, hBC, fun fl h'' x'' u'' => ?_⟩
  refine leaveAny rfl rfl x'' fun h6 x6 u6 => ?_
  refine leaveD rfl rfl x6 fun h5 x5 u5 => ?_
  have k1 : ∀ q ∈ ([(657, lamTab cL), (cL, oL)] : List (Addr × Obj)), G9.get? q.1 = some q.2 ∧ q.1 ∉ [C, Ll, Lm, L1] := by
    have go : ∀ q : Addr × Obj, G9.get? q.1 = some q.2 → q.1 ≠ C → q.1 ≠ Ll → q.1 ≠ Lm → q.1 ≠ L1 → G9.get? q.1 = some q.2 ∧ q.1 ∉ [C, Ll, Lm, L1] := fun q a1 a2 a3 a4 a5 => ⟨a1, by simp [a2, a3, a4, a5]⟩
    refine List.forall_mem_cons.mpr ⟨?_, List.forall_mem_cons.mpr ⟨?_, List.forall_mem_nil _⟩⟩
    · exact go _ (hR9 _ (by (repeat (first | exact List.Mem.head _ | apply List.Mem.tail)))) (LCg.Off3.mem off10 _ (by (repeat (first | exact List.Mem.head _ | apply List.Mem.tail)))).2.1 (Nl (657, lamTab cL) (by (repeat (first | exact List.Mem.head _ | apply List.Mem.tail)))).2.1 (N10 (657, lamTab cL) (by (repeat (first | exact List.Mem.head _ | apply List.Mem.tail)))).2.1 nf1.1
    · exact go _ (hR9 _ (by (repeat (first | exact List.Mem.head _ | apply List.Mem.tail)))) (LCg.Off3.mem off10 _ (by (repeat (first | exact List.Mem.head _ | apply List.Mem.tail)))).2.1 (Nl (cL, oL) (by (repeat (first | exact List.Mem.head _ | apply List.Mem.tail)))).2.1 (N10 (cL, oL) (by (repeat (first | exact List.Mem.head _ | apply List.Mem.tail)))).2.1 nf1.2
  have hsub : ∀ b o, g1.get? b = some o → (hideAll G9 [C, Ll, Lm, L1]).get? b = some o := fun b o q => hideAll_get _ (sub b o q) fun hm => by
    rcases List.mem_cons.mp hm with z | hm
    · rw [z, kts_none FGm.keep hCm.2.2] at q; cases q
    · rcases List.mem_cons.mp hm with z | hm
      · have := FGl.keep b o (FGm.keep b o q)
        rw [z, kts_self Fl] at this; cases this
      · rcases List.mem_cons.mp hm with z | hm
        · have := FGm.keep b o q
          rw [z, kts_self Fm] at this; cases this
        · rw [List.mem_singleton.mp hm, kts_self FGm] at q; cases q
  have gone : ∀ b ∈ [C, Ll, Lm, L1], ∀ o, (hideAll G9 [C, Ll, Lm, L1]).get? b = some o → False := fun b hb o q => by rw [hideAll_none _ hb] at q; cases q
  refine hE e9 D9 tm9 tk9 (hideAll G9 [C, Ll, Lm, L1]) h5 tk8 (FG1.keeps hsub) (fun q hq => hsub _ _ (R1 q hq)) (fun q hq => hideAll_get _ (k1 q hq).1 (k1 q hq).2) (raised_hide hBx hBG hDx hex hC9 (fresh_of_stays Bm.stays hCm.2.2) (hideAll_none _ (.head _)) (fun b o q => of_hideAll _ q) (fun b o q nm hm => ?_) x5) fun b o q hn => ?_
  · rcases frames_mem rfl hm with z | hm
    · exact gone b (by rw [z]; exact .tail _ (.head _)) o q
    · rcases frames_mem rfl hm with z | hm
      · exact gone b (by rw [z]; exact .tail _ (.tail _ (.head _))) o q
      · rcases frames_mem rfl hm with z | hm
        · exact gone b (by rw [z]; exact .tail _ (.tail _ (.tail _ (.head _)))) o q
        · exact nm hm
  · have hb : b ≠ C := fun z => gone b (by rw [z]; exact .head _) o q
    obtain ⟨s1, z1⟩ := U9 b o (of_hideAll _ q) hn
    obtain ⟨s2, z2⟩ := u7 b _ z1 hn
    obtain ⟨s3, z3⟩ := u'' b _ hb z2 hn
    obtain ⟨s4, z4⟩ := u6 b _ z3 hn
    obtain ⟨s5, z5⟩ := u5 b _ z4 hn
    exact ⟨s5, z5⟩
theorem bchrF (w : World) (A U1 U2 U3 Vo dO Io Vn dN Jn Vx dX Ix : Addr) (n o1 o2 o3 o4 o5 ok on n1 n2 n3 n4 n5 nk nn x1 x2 x3 x4 x5 xk xn t1 t2 tz : Nat) (y z : Str)
    (cL : Addr) (oL : Obj) (vL : Array Value) (tL : Tok) (hL : LamCode oL vL tL) (ho : Chain [657, cL, Io, dO, Vo, U1, Jn, dN, Vn, U2, Ix, dX, Vx, U3, A]) :
  RaisesK w 662 [.none, .ref A, .none] 60 4000 ([(A, listOf #[.ref U1, .ref U2, .ref U3] n), (U3, tup [.none, .ref Vx]), (U2, tup [.none, .ref Vn]), (U1, tup [.none, .ref Vo]),
    (Vo, instObj 237 dO), (dO, dictOf (vecEs w o1 o2 o3 o4 o5 (Str.ofString "character") ok (.ref Io)) 5), (Io, listOf #[.str (Str.ofString "d-a") t1] on), (Vn, instObj 237 dN), (dN, dictOf (vecEs w n1 n2 n3 n4 n5 (Str.ofString "character") nk (.ref Jn)) 5), (Jn, listOf #[.str y t2] nn), (Vx, instObj 237 dX), (dX, dictOf (vecEs w x1 x2 x3 x4 x5 (Str.ofString "character") xk (.ref Ix)) 5), (Ix, listOf #[.str z tz] xn), (657, lamTab cL), (cL, oL)]) [(657, lamTab cL), (cL, oL)] (fun h => CodeHd h 661 657)
    (Str.ofString "decreasing range specification ('d-a')") := by
  have hS : Desc [A, U3, Vx, dX, Ix, U2, Vn, dN, Jn, U1, Vo, dO, Io, cL, 657] := desc_of ho
  refine (bchrR w A Vo dO Io Vn dN Jn Vx dX Ix [(U1, .none, .ref Vo), (U2, .none, .ref Vn), (U3, .none, .ref Vx)] n o1 o2 o3 o4 o5 ok on n1 n2 n3 n4 n5 nk nn x1 x2 x3 x4 x5 xk xn t1 t2 tz (Str.ofString "d-a") y z _ cL oL vL tL hL tkD (fun a b tv => chartrF w y tv a b) ?_ (dist_at hS.dist [10, 11, 12, 6, 7, 8, 2, 3, 4, 14, 13] rfl rfl)).sub (by kqd_sub)
  show Off [(A, _), (U1, _), (U2, _), (U3, _)] _
  k_extra "off"
theorem bchrS (w : World) (A U1 U2 U3 Vo dO Io Vn dN Jn Vx dX Ix : Addr) (n o1 o2 o3 o4 o5 ok on n1 n2 n3 n4 n5 nk nn x1 x2 x3 x4 x5 xk xn t1 t2 tz k1 k2 : Nat) (x y z : Str) (b h : List Nat) (hb : spreadF x.cps.toList = some b) (hh : spreadF y.cps.toList = some h) (hbl : h.length < b.length) (hhl : b.length ≤ 200)
    (hxl : x.length ≤ 20) (hyl : y.length ≤ 20) (hxa : ∀ c ∈ x.cps.toList, c < 128) (hya : ∀ c ∈ y.cps.toList, c < 128)
    (cL : Addr) (oL : Obj) (vL : Array Value) (tL : Tok) (hL : LamCode oL vL tL) (ho : Chain [657, cL, Jn, dN, Vn, U1, Io, dO, Vo, U2, Ix, dX, Vx, U3, A]) :
  RaisesK w 662 [.none, .ref A, .none] 60 4000 ([(A, listOf #[.ref U1, .ref U2, .ref U3] n), (U3, tup [.none, .ref Vx]), (U2, tup [.str (Str.ofString "old") k2, .ref Vo]), (U1, tup [.str (Str.ofString "new") k1, .ref Vn]),
    (Vo, instObj 237 dO), (dO, dictOf (vecEs w o1 o2 o3 o4 o5 (Str.ofString "character") ok (.ref Io)) 5), (Io, listOf #[.str x t1] on), (Vn, instObj 237 dN), (dN, dictOf (vecEs w n1 n2 n3 n4 n5 (Str.ofString "character") nk (.ref Jn)) 5), (Jn, listOf #[.str y t2] nn), (Vx, instObj 237 dX), (dX, dictOf (vecEs w x1 x2 x3 x4 x5 (Str.ofString "character") xk (.ref Ix)) 5), (Ix, listOf #[.str z tz] xn), (657, lamTab cL), (cL, oL)]) [(657, lamTab cL), (cL, oL)] (fun h => CodeHd h 661 657)
    (Str.ofString "'old' is longer than 'new'") := by
  have hS : Desc [A, U3, Vx, dX, Ix, U2, Vo, dO, Io, U1, Vn, dN, Jn, cL, 657] := desc_of ho
  refine (bchrR w A Vo dO Io Vn dN Jn Vx dX Ix [(U1, .str (Str.ofString "new") k1, .ref Vn), (U2, .str (Str.ofString "old") k2, .ref Vo), (U3, .none, .ref Vx)] n o1 o2 o3 o4 o5 ok on n1 n2 n3 n4 n5 nk nn x1 x2 x3 x4 x5 xk xn t1 t2 tz x y z _ cL oL vL tL hL tkF (fun a c tv => chartrS w x y a c b h tv hb hh hbl hhl hxl hyl hxa hya) ?_ (dist_at hS.dist [6, 7, 8, 10, 11, 12, 2, 3, 4, 14, 13] rfl rfl)).sub (by kqd_sub)
  show Off [(A, _), (U1, _), (U2, _), (U3, _)] _
  k_extra "off"

end

section
-- part Kept
/-! _law_kept: the call that comes back -/
noncomputable def HypOn (Hyp : Heap → Prop) (pre : List (Addr × Obj)) (w : World) : Prop :=
  ∀ (H g h h₀ : Heap) (L : Addr) (rest : List (Addr × Obj)), Hyp H → GSub H g (pre.map (·.1)) → News h₀ L H (pre ++ rest) → (Mine.hd.heap_39 w.params).In h₀ → (∀ b o, g.get? b = some o → h.get? b = some o) → Hyp h
theorem hypOn_true (pre : List (Addr × Obj)) (w : World) : HypOn (fun _ => True) pre w := fun _ _ _ _ _ _ _ _ _ _ _ => trivial
set_option maxRecDepth 100000 in
theorem kf655 (w : World) : keepIn (Mine.hd.heap_39 w.params) (.ref 655) = true := by with_unfolding_all rfl
set_option maxRecDepth 100000 in
theorem kf662 (w : World) : keepIn (Mine.hd.heap_39 w.params) (.ref 662) = true := by with_unfolding_all rfl
set_option maxRecDepth 100000 in
theorem kf667 (w : World) : keepIn (Mine.hd.heap_39 w.params) (.ref 667) = true := by with_unfolding_all rfl
set_option maxRecDepth 100000 in
set_option maxHeartbeats 4000000 in
theorem keptG (w : World) (f A : Addr) (pre : List (Addr × Obj)) (Hyp : Heap → Prop) (hH : HypOn Hyp pre w) (kind : Str) (K : List Value → List (Addr × Obj) → Prop) (spec : CallsOk w f [.none, .ref A, .none] 60 4000 pre Hyp (VecR w kind K))
    (hlen : ∀ ys tl, K ys tl → ys.length ≤ 100) (hf : keepIn (Mine.hd.heap_39 w.params) (.ref f) = true) :
  CallsOk w 688 [.ref f, .ref A] 70 4200 pre Hyp (ListR K) := by
  unfold CallsOk
  have tg9 : Mine.Tg 91383 := tgI 91383
  k_fill
  intro p loose mean mg mb dp un gd cn cs a ccd cl outer A₀ base h₀ L m rest s Q E B F X N hoff T hk hd hu hy hret
  refine wpAny_call ?_
  k_dflt (refine' code_defW ?y0k1 ?y0k2 ?y0k3 ?y0k4 ?y0kO ?y0k5 ?y0kA ?y0kF ?y0kK ?y0k6 ?y0k7 ?y0k8 ?y0k9 ?y0kB ?y0kR ?_ ?y0c2 ?y0c3 ?y0c4 ?y0c5; (case y0kA => exact rfl); (case y0kF => exact rfl); (case y0kK => assumption); (case y0k1 => k_asm); (case y0k2 => k_asm); (case y0k3 => k_asm); (case y0k4 => k_asm); (case y0kO => assumption); (case y0k5 => k_asm); (case y0k6 => k_is); (case y0k7 => k_is); (case y0k8 => ktr_room); (case y0k9 => first | exact BindsTo.of_eq rfl | exact binds_K (by k_in) rfl (by k_is) rfl rfl rfl); (case y0c5 => decide); (case y0kB => exact locs rfl); (case y0kR => assumption); (case y0c2 => exact rfl); (case y0c3 => exact rfl); (case y0c4 => exact rfl); k_whole; intro g1 L1 h1 FG1 F1 N1 B1 X1 T1 G1; (try k_lift B1); (first | ((refine name_env2 ?_); intro tkE aA eE qk xE) | ((try dsimp only); (try k_fold); (try ((refine name_env ?_); intro aA eE xE)))))
  k_with "callWith ref" => guard_hyp tg9 : Mine.Tg 91383; (k_dflt (refine callWith_K (by k_asm) hf ?_))
  k_with "call ref" => guard_hyp tg9 : Mine.Tg 91383; ((with_reducible show wpAny _ _ (call (Value.ref f) _) _ _ _); refine Halt.out ?_)
  k_steps
  unfold Halt
  have N1' : News g1 L1 h1 (pre ++ []) := by rw [List.append_nil]; exact N1
  have hy1 : Hyp h1 := hH s.heap g1 h1 h₀ L rest hy G1 N X F1.keep
  refine spec p loose mean mg mb _ _ _ _ _ _ _ _ _ _ base g1 L1 _ [] _ _ _ (by assumption) (by k_asm) X1 N1' (fun _ _ _ h => nomatch h) T1 rfl (by ktr_room) (by ktr_units) hy1 ?_
  intro v9 p9 h9 tk9 F9 N9 O9 P9
  (first | (refine hideW ?_; intro gG9; obtain ⟨R, dR, Ir, r1, r2, r3, r4, r5, rk, rn, ys, tl, zq1, zq2, hK⟩ := P9; refine (?_ : wpAny _ _ _ _ _ _); clear gG9; (first | subst zq1 | cases zq1); (first | subst zq2 | cases zq2)) | obtain ⟨R, dR, Ir, r1, r2, r3, r4, r5, rk, rn, ys, tl, rfl, rfl, hK⟩ := P9)
  have hl := hlen ys tl hK
  simp only [List.append_nil] at N9
  k_with "call type:list cons nil" => guard_hyp tg9 : Mine.Tg 91383; (k_dflt (refine' kup_listOf (zs := ys) (its2 := ys.toArray) ?F ?N ?b (List.toList_toArray) ?_ ?z; (case F => k_asm); (case N => k_asm); (case b => k_mem); (case z => rw [sizeLine_eq, List.toList_toArray]; (exact Nat.le_trans (by with_reducible assumption) (Nat.le_of_ble_eq_true rfl)))); intro D5 c5 h5 F5 N5 l5)
  k_steps
  exact Out.intro (by assumption) (by assumption) ((D5, listOf ys.toArray c5) :: tl) (fun q hq => by
    rcases List.mem_cons.mp hq with rfl | hq
    · exact .head _
    · exact .tail _ (.tail _ (.tail _ (.tail _ hq)))) ⟨D5, c5, ys, tl, rfl, rfl, hK, fun q hq => l5 q (.tail _ (.tail _ (.tail _ hq)))⟩

end

section
-- part KeptX
set_option maxRecDepth 100000 in
set_option maxHeartbeats 4000000 in
theorem keptX655 (w : World) (A : Addr) (pre : List (Addr × Obj)) (Hyp : Heap → Prop) (hH : HypOn Hyp pre w) (x : Str) (spec : RaisesOk w 655 [.none, .ref A, .none] 60 4000 pre Hyp x) :
  CallsT w 688 [.ref 655, .ref A] 70 4200 pre Hyp (fun v post => (∃ t, v = .str x t) ∧ post = []) := by
  unfold CallsT
  have tg9 : Mine.Tg 53038 := tgI 53038
  k_fill
  intro p loose mean mg mb dp un gd cn cs a ccd cl outer A₀ base h₀ L m rest s Q E B F X N hoff T XB TB DK hk hd hu hy hret
  refine wpAny_call ?_
  k_dflt (refine' code_defT B F X N hoff T XB TB DK ?kA ?kF ?kK ?k6 ?k7 ?k8 ?k9 ?kB hret ?_ ?c2 ?c3 ?c4 ?c5; (case kA => exact rfl); (case kF => exact rfl); (case kK => assumption); (case k6 => k_is); (case k7 => k_is); (case k8 => ktr_room); (case k9 => exact BindsTo.of_eq rfl); (case c5 => decide); (case kB => exact locs rfl); (case c2 => exact rfl); (case c3 => exact rfl); (case c4 => exact rfl); k_whole; intro g1 L1 h1 FG1 F1 N1 B1 X1 T1 G1 D1; (try dsimp only); (try k_lift B1); (try k_fold))
  k_with "call ref" => guard_hyp tg9 : Mine.Tg 53038; ((with_reducible show wpAny _ _ (call (Value.ref 655) _) _ _ _); refine Halt.out ?_)
  k_steps
  unfold Halt
  have N1' : News g1 L1 h1 (pre ++ []) := by rw [List.append_nil]; exact N1
  have hy1 : Hyp h1 := hH s.heap g1 h1 h₀ L rest hy G1 N X F1.keep
  refine spec p loose mean mg mb _ _ _ _ _ _ _ _ _ _ base g1 L1 _ [] _ _ _ (by assumption) (by k_asm) X1 N1' (fun _ _ _ h => nomatch h) T1 rfl (by ktr_room) (by ktr_units) hy1 ?_
  intro e9 D9 tm9 tk9 G9 h9 tk8 FG9 _ R9 U9
  k_dflt (refine' caughtD (KF := Mine.hd.heap_39 w.params) R9 FG9 ?k1 U9 XB TB D1 ?k2 ?k3 ?_ ?k4 ?k5 ?k6 ?k7; (case k1 => assumption); (case k2 => k_is); (case k3 => kernel_rfl); (case k4 => exact rfl); (case k5 => exact rfl); (case k6 => exact rfl); (case k7 => decide))
  intro h8 g8 vs8 sl8 tk7 T8 F8 N8 K8 X8 P8 D8
  k_with "getAttr ref" => guard_hyp tg9 : Mine.Tg 53038; refine Halt.out ?_
  k_steps
  unfold Halt
  have I8 : InstAt h8 e9 ⟨.ref 370, some D9, .fields vs8, sl8⟩ 370 (some (msgO w x tm9 tk9)) := ⟨(N8 _ (.head _)).1, rfl, rfl, (N8 _ (.tail _ (.head _))).1⟩
  refine exc_get (K := Mine.hd.heap_39 w.params) (X8.keeps F8.keep) I8 (v := .str x tm9) (by kernel_rfl) (by kernel_rfl) (by kernel_rfl) (by kernel_rfl) rfl ?_
  k_steps
  exact OutT.intro T8 (by assumption) News.nil [] (fun _ h => nomatch h) ⟨⟨_, rfl⟩, rfl⟩
set_option maxRecDepth 100000 in
set_option maxHeartbeats 4000000 in
theorem keptX662 (w : World) (A : Addr) (pre : List (Addr × Obj)) (Hyp : Heap → Prop) (hH : HypOn Hyp pre w) (x : Str) (spec : RaisesOk w 662 [.none, .ref A, .none] 60 4000 pre Hyp x) :
  CallsT w 688 [.ref 662, .ref A] 70 4200 pre Hyp (fun v post => (∃ t, v = .str x t) ∧ post = []) := by
  unfold CallsT
  have tg9 : Mine.Tg 77236 := tgI 77236
  k_fill
  intro p loose mean mg mb dp un gd cn cs a ccd cl outer A₀ base h₀ L m rest s Q E B F X N hoff T XB TB DK hk hd hu hy hret
  refine wpAny_call ?_
  k_dflt (refine' code_defT B F X N hoff T XB TB DK ?kA ?kF ?kK ?k6 ?k7 ?k8 ?k9 ?kB hret ?_ ?c2 ?c3 ?c4 ?c5; (case kA => exact rfl); (case kF => exact rfl); (case kK => assumption); (case k6 => k_is); (case k7 => k_is); (case k8 => ktr_room); (case k9 => exact BindsTo.of_eq rfl); (case c5 => decide); (case kB => exact locs rfl); (case c2 => exact rfl); (case c3 => exact rfl); (case c4 => exact rfl); k_whole; intro g1 L1 h1 FG1 F1 N1 B1 X1 T1 G1 D1; (try dsimp only); (try k_lift B1); (try k_fold))
  k_with "call ref" => guard_hyp tg9 : Mine.Tg 77236; ((with_reducible show wpAny _ _ (call (Value.ref 662) _) _ _ _); refine Halt.out ?_)
  k_steps
  unfold Halt
  have N1' : News g1 L1 h1 (pre ++ []) := by rw [List.append_nil]; exact N1
  have hy1 : Hyp h1 := hH s.heap g1 h1 h₀ L rest hy G1 N X F1.keep
  refine spec p loose mean mg mb _ _ _ _ _ _ _ _ _ _ base g1 L1 _ [] _ _ _ (by assumption) (by k_asm) X1 N1' (fun _ _ _ h => nomatch h) T1 rfl (by ktr_room) (by ktr_units) hy1 ?_
  intro e9 D9 tm9 tk9 G9 h9 tk8 FG9 _ R9 U9
  k_dflt (refine' caughtD (KF := Mine.hd.heap_39 w.params) R9 FG9 ?k1 U9 XB TB D1 ?k2 ?k3 ?_ ?k4 ?k5 ?k6 ?k7; (case k1 => assumption); (case k2 => k_is); (case k3 => kernel_rfl); (case k4 => exact rfl); (case k5 => exact rfl); (case k6 => exact rfl); (case k7 => decide))
  intro h8 g8 vs8 sl8 tk7 T8 F8 N8 K8 X8 P8 D8
  k_with "getAttr ref" => guard_hyp tg9 : Mine.Tg 77236; refine Halt.out ?_
  k_steps
  unfold Halt
  have I8 : InstAt h8 e9 ⟨.ref 370, some D9, .fields vs8, sl8⟩ 370 (some (msgO w x tm9 tk9)) := ⟨(N8 _ (.head _)).1, rfl, rfl, (N8 _ (.tail _ (.head _))).1⟩
  refine exc_get (K := Mine.hd.heap_39 w.params) (X8.keeps F8.keep) I8 (v := .str x tm9) (by kernel_rfl) (by kernel_rfl) (by kernel_rfl) (by kernel_rfl) rfl ?_
  k_steps
  exact OutT.intro T8 (by assumption) News.nil [] (fun _ h => nomatch h) ⟨⟨_, rfl⟩, rfl⟩

end

section
-- part KeptK
/-! _law_kept of b_chartr where it raises: the lambda's code table is as it was -/
theorem reground {g₀ g G : Heap} {L : Addr} {m : Str → Option Value} {kept : List (Addr × Obj)}
    (F : Fr g₀ L G m) (hs : g.objs.size ≤ L) (hg : ∀ b o, g.get? b = some o → b ∉ kept.map (·.1) → g₀.get? b = some o) (hk : ∀ q ∈ kept, G.get? q.1 = some q.2) (hkg : ∀ q ∈ kept, g.get? q.1 = some q.2) : Fr g L G m :=
  ⟨F.ns, fun b o e => by
    by_cases hm : b ∈ kept.map (·.1)
    · obtain ⟨q, hq, rfl⟩ := List.mem_map.mp hm
      have := hkg q hq
      rw [this] at e
      rw [← e]
      exact hk q hq
    · exact F.keep b o (hg b o e hm), hs⟩
set_option maxRecDepth 100000 in
set_option maxHeartbeats 4000000 in
theorem keptK662 (w : World) (A : Addr) (pre kept : List (Addr × Obj)) (Hyp : Heap → Prop) (hH : ∀ (H h h₀ : Heap) (L : Addr) (rest : List (Addr × Obj)), Hyp H → News h₀ L H (pre ++ (kept ++ rest)) → (Mine.hd.heap_39 w.params).In h₀ → (∀ b o, H.get? b = some o → b ∉ pre.map (·.1) → h.get? b = some o) → Hyp h) (hoffK : Off pre kept) (x : Str) (spec : RaisesK w 662 [.none, .ref A, .none] 60 4000 (pre ++ kept) kept Hyp x) :
  CallsT w 688 [.ref 662, .ref A] 70 4200 (pre ++ kept) Hyp (fun v post => (∃ t, v = .str x t) ∧ post = kept) := by
  unfold CallsT
  have tg9 : Mine.Tg 47015 := tgI 47015
  k_fill
  intro p loose mean mg mb dp un gd cn cs a ccd cl outer A₀ base h₀ L m rest s Q E B F X N hoff T XB TB DK hk hd hu hy hret
  refine wpAny_call ?_
  rw [List.append_assoc] at N
  have hoff2 : Off pre (kept ++ rest) := fun q hq r hr => (List.mem_append.mp hr).elim (hoffK q hq r) (hoff q (List.mem_append_left _ hq) r)
  have hoff3 : Off kept rest := fun q hq r hr => hoff q (List.mem_append_right _ hq) r hr
  have hret2 : ∀ (v : Value) (post : List (Addr × Obj)) (h' : Heap) (tk' : Nat) (h₀' : Heap), KtsTurn (outer.filterMap (·.frame)) h₀ h₀' → Fr h₀' L h' m → News h₀' L h' (post ++ (kept ++ rest)) → Off post (kept ++ rest) → (fun v post => (∃ t, v = Value.str x t) ∧ post = []) v post → Below A₀ base outer h₀' → (Mine.hd.heap_39 w.params).In h₀' → Top p loose mean mg mb h₀' → KtsDicts (outer.filterMap (·.frame)) h₀' → Q v { s with heap := h', toks := tk' } := by
    rintro v post h' tk' h₀' T' F' N' O' ⟨hv, rfl⟩ B' X' Tp' D'
    exact hret v kept h' tk' h₀' T' F' N' hoff3 ⟨hv, rfl⟩ B' X' Tp' D'
  k_dflt (refine' code_defT B F X N hoff2 T XB TB DK ?kA ?kF ?kK ?k6 ?k7 ?k8 ?k9 ?kB hret2 ?_ ?c2 ?c3 ?c4 ?c5; (case kA => exact rfl); (case kF => exact rfl); (case kK => assumption); (case k6 => k_is); (case k7 => k_is); (case k8 => ktr_room); (case k9 => exact BindsTo.of_eq rfl); (case c5 => decide); (case kB => exact locs rfl); (case c2 => exact rfl); (case c3 => exact rfl); (case c4 => exact rfl); k_whole; intro g1 L1 h1 FG1 F1 N1 B1 X1 T1 G1 D1; (try dsimp only); (try k_lift B1); (try k_fold))
  have hkg : ∀ q ∈ kept, g1.get? q.1 = some q.2 := fun q hq => stays_in N hoff2 G1 q (List.mem_append_left _ hq)
  k_with "call ref" => guard_hyp tg9 : Mine.Tg 47015; ((with_reducible show wpAny _ _ (call (Value.ref 662) _) _ _ _); refine Halt.out ?_)
  k_steps
  unfold Halt
  have hkN : ∀ q ∈ kept, s.heap.get? q.1 = some q.2 ∧ q.1 ≠ L ∧ h₀.get? q.1 = none := fun q hq => N q (List.mem_append_right _ (List.mem_append_left _ hq))
  have nh : ∀ b o, h₀.get? b = some o → b ∉ kept.map (·.1) := fun b o e hm => by
    (first | (refine hideW ?_; intro gG9; obtain ⟨q, hq, zq1⟩ := List.mem_map.mp hm; refine (?_ : wpAny _ _ _ _ _ _); clear gG9; (first | subst zq1 | cases zq1)) | obtain ⟨q, hq, rfl⟩ := List.mem_map.mp hm)
    rw [(hkN q hq).2.2] at e; cases e
  have nfr : ∀ e ∈ (envX cn cs L a ccd cl :: outer), ∀ b ∈ kept.map (·.1), e.frame ≠ some b := by
    intro e he b hb hf
    (first | (refine hideW ?_; intro gG9; obtain ⟨q, hq, zq1⟩ := List.mem_map.mp hb; refine (?_ : wpAny _ _ _ _ _ _); clear gG9; (first | subst zq1 | cases zq1)) | obtain ⟨q, hq, rfl⟩ := List.mem_map.mp hb)
    rcases List.mem_cons.mp he with rfl | he
    · exact (hkN q hq).2.1 (Option.some.inj hf).symm
    · obtain ⟨L', o', hf', ho'⟩ := funFrames_in B.frames e he
      rw [hf] at hf'
      obtain rfl := Option.some.inj hf'
      exact nh _ _ ho' hb
  have st0 : ∀ b o, h₀.get? b = some o → (hideAll g1 (kept.map (·.1))).get? b = some o := fun b o e => hideAll_get _ (FG1.keep b o e) (nh b o e)
  have B0 : Below (ktrTop dp un gd cn cs L a ccd cl outer) base (envX cn cs L a ccd cl :: outer) (hideAll g1 (kept.map (·.1))) := ⟨B1.stack, fun b o e => st0 b o (B.stays b o e), funFrames_hideAll B1.frames nfr⟩
  have F0 := (⟨F1.ns, fun b o e => F1.keep b o (of_hideAll _ e), by rw [hideAll_size]; exact F1.above⟩ : Fr (hideAll g1 (kept.map (·.1))) L1 h1 _)
  have N0 : News (hideAll g1 (kept.map (·.1))) L1 h1 ((pre ++ kept) ++ []) := by
    rw [List.append_nil]
    intro q hq
    rcases List.mem_append.mp hq with hq | hq
    · exact ⟨(N1 q hq).1, (N1 q hq).2.1, kts_none (fun b o e => of_hideAll _ e) (N1 q hq).2.2⟩
    · refine ⟨F1.keep _ _ (hkg q hq), fun z => ?_, hideAll_none _ (List.mem_map_of_mem hq)⟩
      have := hkg q hq
      rw [z, kts_self F1] at this; cases this
  have hy1 : Hyp h1 := hH s.heap h1 h₀ L rest hy N X fun b o e nm => F1.keep b o (G1 b o e nm)
  refine spec p loose mean mg mb _ _ _ _ _ _ _ _ _ _ base _ L1 _ [] _ _ _ B0 F0 (X.keeps st0) N0 (fun _ _ _ h => nomatch h) (T.keeps st0) rfl (by ktr_room) (by ktr_units) hy1 ?_
  intro e9 D9 tm9 tk9 G9 h9 tk8 FG0 _ K9 R9 U9
  have FG9 := reground FG0 F1.above (fun b o e nm => hideAll_get _ e nm) K9 hkg
  clear F0 N0 B0 FG0 st0 hy1
  k_dflt (refine' caughtD (KF := Mine.hd.heap_39 w.params) R9 FG9 ?k1 U9 XB TB D1 ?k2 ?k3 ?_ ?k4 ?k5 ?k6 ?k7; (case k1 => assumption); (case k2 => k_is); (case k3 => kernel_rfl); (case k4 => exact rfl); (case k5 => exact rfl); (case k6 => exact rfl); (case k7 => decide))
  intro h8 g8 vs8 sl8 tk7 T8 F8 N8 K8 X8 P8 D8
  k_with "getAttr ref" => guard_hyp tg9 : Mine.Tg 47015; refine Halt.out ?_
  k_steps
  unfold Halt
  have I8 : InstAt h8 e9 ⟨.ref 370, some D9, .fields vs8, sl8⟩ 370 (some (msgO w x tm9 tk9)) := ⟨(N8 _ (.head _)).1, rfl, rfl, (N8 _ (.tail _ (.head _))).1⟩
  refine exc_get (K := Mine.hd.heap_39 w.params) (X8.keeps F8.keep) I8 (v := .str x tm9) (by kernel_rfl) (by kernel_rfl) (by kernel_rfl) (by kernel_rfl) rfl ?_
  k_steps
  exact OutT.intro T8 (by assumption) News.nil [] (fun _ h => nomatch h) ⟨⟨_, rfl⟩, rfl⟩

end

section
-- part KeptI
theorem CallsOk.mono {w : World} {f : Addr} {vs : List Value} {dN uN : Nat} {pre : List (Addr × Obj)} {Hyp : Heap → Prop} {Post Post' : Value → List (Addr × Obj) → Prop} (H : CallsOk w f vs dN uN pre Hyp Post) (h : ∀ v post, Post v post → Post' v post) : CallsOk w f vs dN uN pre Hyp Post' :=
  fun p loose mean mg mb dp un gd cn cs a ccd cl outer A₀ base h₀ L m rest s Q E B F X N hoff T hk hd hu hy hret =>
    H p loose mean mg mb dp un gd cn cs a ccd cl outer A₀ base h₀ L m rest s Q E B F X N hoff T hk hd hu hy fun v post h' tk' F' N' O' P' => hret v post h' tk' F' N' O' (h v post P')
set_option maxRecDepth 100000 in
theorem hypOn_code (w : World) (pre : List (Addr × Obj)) : HypOn (fun h => CodeHd h 661 657) pre w := by
  unfold HypOn
  have tg9 : Mine.Tg 97961 := tgI 97961
  k_fill
  intro H g h h₀ L rest hy G N X k
  exact PySem.W.CodeHd.keeps (codeHd_g hy G N (fun a ha => by rw [List.map_append]; exact List.mem_append_left _ ha) (X 661 _ (by with_unfolding_all rfl))) k
set_option maxHeartbeats 1000000 in
theorem kbstr2 (w : World) (A U1 U2 Vx dX Ix Vb dB Ib : Addr) (k1 k2 n x1 x2 x3 x4 x5 xk xn b1 b2 b3 b4 b5 bk bn tb : Nat) (b : Int) (vs : List Value) (os : List (Option Str)) (hv : OSAre vs os) (hl : os.length ≤ 6)
    (hx : ∀ x, some x ∈ os → x.length ≤ 40 ∧ ∀ c ∈ x.cps.toList, c < 128) (hb : b = 0 ∨ (2 ≤ b ∧ b ≤ 36)) (ho : Chain [Ix, dX, Vx, U1, Ib, dB, Vb, U2, A]) :
  CallsOk w 688 [.ref 655, .ref A] 70 4200 ([(A, listOf #[.ref U1, .ref U2] n), (U2, tup [.str (Str.ofString "base") k2, .ref Vb]), (U1, tup [.str (Str.ofString "x") k1, .ref Vx]), (Vx, instObj 237 dX), (dX, dictOf (vecEs w x1 x2 x3 x4 x5 (Str.ofString "character") xk (.ref Ix)) 5), (Ix, listOf vs.toArray xn), (Vb, instObj 237 dB), (dB, dictOf (vecEs w b1 b2 b3 b4 b5 (Str.ofString "integer") bk (.ref Ib)) 5), (Ib, listOf #[.int b tb] bn)]) (fun _ => True) (ListR (fun ys tl => tl = [(Ix, listOf vs.toArray xn)] ∧ OIAre ys (os.map fun o => o.bind fun x => strtoiF x b))) :=
  keptG w 655 A _ _ (hypOn_true _ _) _ _ (bstr2 w A U1 U2 Vx dX Ix Vb dB Ib k1 k2 n x1 x2 x3 x4 x5 xk xn b1 b2 b3 b4 b5 bk bn tb b vs os hv hl hx hb ho) (fun ys tl h => by rw [h.2.1, List.length_map]; exact Nat.le_trans hl (Nat.le_of_ble_eq_true rfl)) (kf655 w)
set_option maxHeartbeats 1000000 in
theorem kbstr1 (w : World) (A U1 Vx dX Ix : Addr) (n x1 x2 x3 x4 x5 xk xn : Nat) (vs : List Value) (os : List (Option Str)) (hv : OSAre vs os) (hl : os.length ≤ 6)
    (hx : ∀ x, some x ∈ os → x.length ≤ 40 ∧ ∀ c ∈ x.cps.toList, c < 128) (ho : Chain [Ix, dX, Vx, U1, A]) :
  CallsOk w 688 [.ref 655, .ref A] 70 4200 ([(A, listOf #[.ref U1] n), (U1, tup [.none, .ref Vx]), (Vx, instObj 237 dX), (dX, dictOf (vecEs w x1 x2 x3 x4 x5 (Str.ofString "character") xk (.ref Ix)) 5), (Ix, listOf vs.toArray xn)]) (fun _ => True) (ListR (fun ys tl => tl = [(Ix, listOf vs.toArray xn)] ∧ OIAre ys (os.map fun o => o.bind fun x => strtoiF x 10))) :=
  keptG w 655 A _ _ (hypOn_true _ _) _ _ (bstr1 w A U1 Vx dX Ix n x1 x2 x3 x4 x5 xk xn vs os hv hl hx ho) (fun ys tl h => by rw [h.2.1, List.length_map]; exact Nat.le_trans hl (Nat.le_of_ble_eq_true rfl)) (kf655 w)
set_option maxHeartbeats 1000000 in
theorem kbchrD (w : World) (A U1 U2 U3 Vo dO Io Vn dN Jn Vx dX Ix : Addr) (n o1 o2 o3 o4 o5 ok on n1 n2 n3 n4 n5 nk nn x1 x2 x3 x4 x5 xk xn t1 t2 : Nat) (x y : Str) (b h : List Nat) (vs : List Value) (os : List (Option Str))
    (hb : spreadF x.cps.toList = some b) (hh : spreadF y.cps.toList = some h) (hbl : b.length ≤ h.length) (hhl : h.length ≤ 200)
    (hxl : x.length ≤ 20) (hyl : y.length ≤ 20) (hxa : ∀ c ∈ x.cps.toList, c < 128) (hya : ∀ c ∈ y.cps.toList, c < 128)
    (hv : OSAre vs os) (hl : os.length ≤ 6) (hx : ∀ x, some x ∈ os → x.length ≤ 100) (ho : Chain [657, Ix, dX, Vx, Io, dO, Vo, U1, Jn, dN, Vn, U2, U3, A]) :
  CallsOk w 688 [.ref 662, .ref A] 70 4200 ([(A, listOf #[.ref U1, .ref U2, .ref U3] n), (U3, tup [.none, .ref Vx]), (U2, tup [.none, .ref Vn]), (U1, tup [.none, .ref Vo]),
    (Vo, instObj 237 dO), (dO, dictOf (vecEs w o1 o2 o3 o4 o5 (Str.ofString "character") ok (.ref Io)) 5), (Io, listOf #[.str x t1] on), (Vn, instObj 237 dN), (dN, dictOf (vecEs w n1 n2 n3 n4 n5 (Str.ofString "character") nk (.ref Jn)) 5), (Jn, listOf #[.str y t2] nn), (Vx, instObj 237 dX), (dX, dictOf (vecEs w x1 x2 x3 x4 x5 (Str.ofString "character") xk (.ref Ix)) 5), (Ix, listOf vs.toArray xn), (657, tabObj #[])]) (fun h => CodeHd h 661 657) (ListR (fun ys tl => ∃ c' oc' vs' t', tl = [(Ix, listOf vs.toArray xn), (657, lamTab c'), (c', oc'), (Vx, instObj 237 dX), (dX, dictOf (vecEs w x1 x2 x3 x4 x5 (Str.ofString "character") xk (.ref Ix)) 5)] ∧ OSAre ys (os.map fun o => o.map (mapT (chF (b.zip h)))) ∧ LamCode oc' vs' t' ∧ (@LT.lt Nat _ 657 c') ∧ (@LT.lt Nat _ Ix c'))) :=
  keptG w 662 A _ _ (hypOn_code _ _) _ _ (bchrD w A U1 U2 U3 Vo dO Io Vn dN Jn Vx dX Ix n o1 o2 o3 o4 o5 ok on n1 n2 n3 n4 n5 nk nn x1 x2 x3 x4 x5 xk xn t1 t2 x y b h vs os hb hh hbl hhl hxl hyl hxa hya hv hl hx ho) (fun ys tl ⟨_, _, _, _, _, h, _⟩ => by rw [h.1, List.length_map]; exact Nat.le_trans hl (Nat.le_of_ble_eq_true rfl)) (kf662 w)
set_option maxHeartbeats 1000000 in
theorem kbchrE (w : World) (A U1 U2 U3 Vo dO Io Vn dN Jn Vx dX Ix : Addr) (n o1 o2 o3 o4 o5 ok on n1 n2 n3 n4 n5 nk nn x1 x2 x3 x4 x5 xk xn t1 t2 k3 : Nat) (x y : Str) (b h : List Nat) (vs : List Value) (os : List (Option Str))
    (hb : spreadF x.cps.toList = some b) (hh : spreadF y.cps.toList = some h) (hbl : b.length ≤ h.length) (hhl : h.length ≤ 200)
    (hxl : x.length ≤ 20) (hyl : y.length ≤ 20) (hxa : ∀ c ∈ x.cps.toList, c < 128) (hya : ∀ c ∈ y.cps.toList, c < 128)
    (hv : OSAre vs os) (hl : os.length ≤ 6) (hx : ∀ x, some x ∈ os → x.length ≤ 100) (cL : Addr) (oL : Obj) (vL : Array Value) (tL : Tok) (hL : LamCode oL vL tL) (ho : Chain [657, Ix, Io, dO, Vo, U1, Jn, dN, Vn, U2, dX, Vx, U3, A]) (hc : (@LT.lt Nat _ cL Io) ∧ (@LT.lt Nat _ 657 cL) ∧ (@Ne Nat cL Ix)) :
  CallsOk w 688 [.ref 662, .ref A] 70 4200 ([(A, listOf #[.ref U1, .ref U2, .ref U3] n), (U3, tup [.str (Str.ofString "x") k3, .ref Vx]), (U2, tup [.none, .ref Vn]), (U1, tup [.none, .ref Vo]),
    (Vo, instObj 237 dO), (dO, dictOf (vecEs w o1 o2 o3 o4 o5 (Str.ofString "character") ok (.ref Io)) 5), (Io, listOf #[.str x t1] on), (Vn, instObj 237 dN), (dN, dictOf (vecEs w n1 n2 n3 n4 n5 (Str.ofString "character") nk (.ref Jn)) 5), (Jn, listOf #[.str y t2] nn), (Vx, instObj 237 dX), (dX, dictOf (vecEs w x1 x2 x3 x4 x5 (Str.ofString "character") xk (.ref Ix)) 5), (Ix, listOf vs.toArray xn), (657, lamTab cL), (cL, oL)]) (fun h => CodeHd h 661 657) (ListR (fun ys tl => tl = [(Ix, listOf vs.toArray xn), (657, lamTab cL), (cL, oL)] ∧ OSAre ys (os.map fun o => o.map (mapT (chF (b.zip h)))))) :=
  keptG w 662 A _ _ (hypOn_code _ _) _ _ (bchrE w A U1 U2 U3 Vo dO Io Vn dN Jn Vx dX Ix n o1 o2 o3 o4 o5 ok on n1 n2 n3 n4 n5 nk nn x1 x2 x3 x4 x5 xk xn t1 t2 k3 x y b h vs os hb hh hbl hhl hxl hyl hxa hya hv hl hx cL oL vL tL hL ho hc) (fun ys tl h => by rw [h.2.1, List.length_map]; exact Nat.le_trans hl (Nat.le_of_ble_eq_true rfl)) (kf662 w)
set_option maxHeartbeats 1000000 in
theorem kbuniqG (w : World) (A U1 U2 Vx dX Ix Vs dS Is : Addr) (k2 n x1 x2 x3 x4 x5 xk xn s1 s2 s3 s4 s5 sk sn ts : Nat) (sep : Str) (vs : List Value) (os : List (Option Str)) (hv : OSAre vs os) (hl : os.length ≤ 7)
    (hx : ∀ x, some x ∈ os → x.length ≤ 40) (hsl : sep.length ≤ 2) (ho : Chain [Ix, dX, Vx, U1, Is, dS, Vs, U2, A]) :
  CallsOk w 688 [.ref 667, .ref A] 70 4200 ([(A, listOf #[.ref U1, .ref U2] n), (U2, tup [.str (Str.ofString "sep") k2, .ref Vs]), (U1, tup [.none, .ref Vx]),
      (Vx, instObj 237 dX), (dX, dictOf (vecEs w x1 x2 x3 x4 x5 (Str.ofString "character") xk (.ref Ix)) 5), (Ix, listOf vs.toArray xn),
      (Vs, instObj 237 dS), (dS, dictOf (vecEs w s1 s2 s3 s4 s5 (Str.ofString "character") sk (.ref Is)) 5), (Is, listOf #[.str sep ts] sn)]) (fun _ => True) (ListR (fun ys tl => ∃ fr fo, tl = [(Ix, listOf vs.toArray xn)] ∧ OSAre ys (fo.map some) ∧ MkU (os.map fun o => o.getD (Str.ofString "NA")) sep os.length fr fo)) :=
  keptG w 667 A _ _ (hypOn_true _ _) _ _ (buniqG w A U1 U2 Vx dX Ix Vs dS Is k2 n x1 x2 x3 x4 x5 xk xn s1 s2 s3 s4 s5 sk sn ts sep vs os hv hl hx hsl ho) (fun ys tl ⟨_, _, _, h, h2⟩ => by rw [h.1, List.length_map, h2.len.2]; exact Nat.le_trans hl (Nat.le_of_ble_eq_true rfl)) (kf667 w)
set_option maxHeartbeats 1000000 in
theorem kbuniqH (w : World) (A U1 Vx dX Ix : Addr) (n x1 x2 x3 x4 x5 xk xn : Nat) (vs : List Value) (os : List (Option Str)) (hv : OSAre vs os) (hl : os.length ≤ 7)
    (hx : ∀ x, some x ∈ os → x.length ≤ 40) (ho : Chain [Ix, dX, Vx, U1, A]) :
  CallsOk w 688 [.ref 667, .ref A] 70 4200 ([(A, listOf #[.ref U1] n), (U1, tup [.none, .ref Vx]),
      (Vx, instObj 237 dX), (dX, dictOf (vecEs w x1 x2 x3 x4 x5 (Str.ofString "character") xk (.ref Ix)) 5), (Ix, listOf vs.toArray xn)]) (fun _ => True) (ListR (fun ys tl => ∃ fr fo, tl = [(Ix, listOf vs.toArray xn)] ∧ OSAre ys (fo.map some) ∧ MkU (os.map fun o => o.getD (Str.ofString "NA")) (Str.ofString ".") os.length fr fo)) :=
  keptG w 667 A _ _ (hypOn_true _ _) _ _ (buniqH w A U1 Vx dX Ix n x1 x2 x3 x4 x5 xk xn vs os hv hl hx ho) (fun ys tl ⟨_, _, _, h, h2⟩ => by rw [h.1, List.length_map, h2.len.2]; exact Nat.le_trans hl (Nat.le_of_ble_eq_true rfl)) (kf667 w)
theorem kbstrX (w : World) (A U1 U2 Vx dX Ix Vb dB Ib : Addr) (k1 k2 n x1 x2 x3 x4 x5 xk xn b1 b2 b3 b4 b5 bk bn tb : Nat) (b : Int) (vs : List Value) (hb : b = 1 ∨ b = 37) (ho : Chain [Ix, dX, Vx, U1, Ib, dB, Vb, U2, A]) :
  CallsT w 688 [.ref 655, .ref A] 70 4200 ([(A, listOf #[.ref U1, .ref U2] n), (U2, tup [.str (Str.ofString "base") k2, .ref Vb]), (U1, tup [.str (Str.ofString "x") k1, .ref Vx]), (Vx, instObj 237 dX), (dX, dictOf (vecEs w x1 x2 x3 x4 x5 (Str.ofString "character") xk (.ref Ix)) 5), (Ix, listOf vs.toArray xn), (Vb, instObj 237 dB), (dB, dictOf (vecEs w b1 b2 b3 b4 b5 (Str.ofString "integer") bk (.ref Ib)) 5), (Ib, listOf #[.int b tb] bn)]) (fun _ => True) (fun v post => (∃ t, v = .str (Str.ofString "invalid 'base' argument") t) ∧ post = []) :=
  keptX655 w A _ _ (hypOn_true _ _) _ (bstrX w A U1 U2 Vx dX Ix Vb dB Ib k1 k2 n x1 x2 x3 x4 x5 xk xn b1 b2 b3 b4 b5 bk bn tb b vs hb ho)
set_option maxRecDepth 100000 in
theorem hypK_code (w : World) (pre kept : List (Addr × Obj)) : ∀ (H h h₀ : Heap) (L : Addr) (rest : List (Addr × Obj)), CodeHd H 661 657 → News h₀ L H (pre ++ (kept ++ rest)) → (Mine.hd.heap_39 w.params).In h₀ → (∀ b o, H.get? b = some o → b ∉ pre.map (·.1) → h.get? b = some o) → CodeHd h 661 657 := by
  have tg9 : Mine.Tg 94643 := tgI 94643
  k_fill
  intro H h h₀ L rest hy N X k
  (first | (refine hideW ?_; intro gG9; obtain ⟨o, vs, file, tf, flags, tg, inF, text, tt, e1, r⟩ := hy; refine (?_ : wpAny _ _ _ _ _ _); clear gG9) | obtain ⟨o, vs, file, tf, flags, tg, inF, text, tt, e1, r⟩ := hy)
  refine ⟨o, vs, file, tf, flags, tg, inF, text, tt, k 661 o e1 fun hm => ?_, r⟩
  (first | (refine hideW ?_; intro gG9; obtain ⟨q, hq, e⟩ := List.mem_map.mp hm; refine (?_ : wpAny _ _ _ _ _ _); clear gG9) | obtain ⟨q, hq, e⟩ := List.mem_map.mp hm)
  have := (N q (List.mem_append_left _ hq)).2.2
  rw [show q.1 = 661 from e, X 661 _ (by with_unfolding_all rfl)] at this
  cases this
theorem kbchrF (w : World) (A U1 U2 U3 Vo dO Io Vn dN Jn Vx dX Ix : Addr) (n o1 o2 o3 o4 o5 ok on n1 n2 n3 n4 n5 nk nn x1 x2 x3 x4 x5 xk xn t1 t2 tz : Nat) (y z : Str)
    (cL : Addr) (oL : Obj) (vL : Array Value) (tL : Tok) (hL : LamCode oL vL tL) (ho : Chain [657, cL, Io, dO, Vo, U1, Jn, dN, Vn, U2, Ix, dX, Vx, U3, A]) :
  CallsT w 688 [.ref 662, .ref A] 70 4200 ([(A, listOf #[.ref U1, .ref U2, .ref U3] n), (U3, tup [.none, .ref Vx]), (U2, tup [.none, .ref Vn]), (U1, tup [.none, .ref Vo]),
    (Vo, instObj 237 dO), (dO, dictOf (vecEs w o1 o2 o3 o4 o5 (Str.ofString "character") ok (.ref Io)) 5), (Io, listOf #[.str (Str.ofString "d-a") t1] on), (Vn, instObj 237 dN), (dN, dictOf (vecEs w n1 n2 n3 n4 n5 (Str.ofString "character") nk (.ref Jn)) 5), (Jn, listOf #[.str y t2] nn), (Vx, instObj 237 dX), (dX, dictOf (vecEs w x1 x2 x3 x4 x5 (Str.ofString "character") xk (.ref Ix)) 5), (Ix, listOf #[.str z tz] xn)] ++ [(657, lamTab cL), (cL, oL)]) (fun h => CodeHd h 661 657) (fun v post => (∃ t, v = .str (Str.ofString "decreasing range specification ('d-a')") t) ∧ post = [(657, lamTab cL), (cL, oL)]) := by
  refine keptK662 w A _ [(657, lamTab cL), (cL, oL)] _ (hypK_code _ _ _) ?_ _ (bchrF w A U1 U2 U3 Vo dO Io Vn dN Jn Vx dX Ix n o1 o2 o3 o4 o5 ok on n1 n2 n3 n4 n5 nk nn x1 x2 x3 x4 x5 xk xn t1 t2 tz y z cL oL vL tL hL ho)
  have hS : Desc [A, U3, Vx, dX, Ix, U2, Vn, dN, Jn, U1, Vo, dO, Io, cL, 657] := desc_of ho
  k_extra "off"
theorem kbchrS (w : World) (A U1 U2 U3 Vo dO Io Vn dN Jn Vx dX Ix : Addr) (n o1 o2 o3 o4 o5 ok on n1 n2 n3 n4 n5 nk nn x1 x2 x3 x4 x5 xk xn t1 t2 tz k1 k2 : Nat) (x y z : Str) (b h : List Nat) (hb : spreadF x.cps.toList = some b) (hh : spreadF y.cps.toList = some h) (hbl : h.length < b.length) (hhl : b.length ≤ 200)
    (hxl : x.length ≤ 20) (hyl : y.length ≤ 20) (hxa : ∀ c ∈ x.cps.toList, c < 128) (hya : ∀ c ∈ y.cps.toList, c < 128)
    (cL : Addr) (oL : Obj) (vL : Array Value) (tL : Tok) (hL : LamCode oL vL tL) (ho : Chain [657, cL, Jn, dN, Vn, U1, Io, dO, Vo, U2, Ix, dX, Vx, U3, A]) :
  CallsT w 688 [.ref 662, .ref A] 70 4200 ([(A, listOf #[.ref U1, .ref U2, .ref U3] n), (U3, tup [.none, .ref Vx]), (U2, tup [.str (Str.ofString "old") k2, .ref Vo]), (U1, tup [.str (Str.ofString "new") k1, .ref Vn]),
    (Vo, instObj 237 dO), (dO, dictOf (vecEs w o1 o2 o3 o4 o5 (Str.ofString "character") ok (.ref Io)) 5), (Io, listOf #[.str x t1] on), (Vn, instObj 237 dN), (dN, dictOf (vecEs w n1 n2 n3 n4 n5 (Str.ofString "character") nk (.ref Jn)) 5), (Jn, listOf #[.str y t2] nn), (Vx, instObj 237 dX), (dX, dictOf (vecEs w x1 x2 x3 x4 x5 (Str.ofString "character") xk (.ref Ix)) 5), (Ix, listOf #[.str z tz] xn)] ++ [(657, lamTab cL), (cL, oL)]) (fun h => CodeHd h 661 657) (fun v post => (∃ t, v = .str (Str.ofString "'old' is longer than 'new'") t) ∧ post = [(657, lamTab cL), (cL, oL)]) := by
  refine keptK662 w A _ [(657, lamTab cL), (cL, oL)] _ (hypK_code _ _ _) ?_ _ (bchrS w A U1 U2 U3 Vo dO Io Vn dN Jn Vx dX Ix n o1 o2 o3 o4 o5 ok on n1 n2 n3 n4 n5 nk nn x1 x2 x3 x4 x5 xk xn t1 t2 tz k1 k2 x y z b h hb hh hbl hhl hxl hyl hxa hya cL oL vL tL hL ho)
  have hS : Desc [A, U3, Vx, dX, Ix, U2, Vo, dO, Io, U1, Vn, dN, Jn, cL, 657] := desc_of ho
  k_extra "off"

end

section
-- part Draw
/-! the drum -/
noncomputable def DrumO (o : Obj) : Prop := ∃ vs ns n, o = listOf vs.toArray n ∧ IntsAre vs ns ∧ ns.length ≤ 90
theorem drawn_lt (ns : List Int) (k : Nat) (h : 0 < k) : ∃ j : Nat, drawn ns (k : Int) = (j : Int) ∧ j < k := by
  unfold drawn
  split
  · exact ⟨0, rfl, h⟩
  · rename_i x _
    have h1 := Int.fmod_nonneg_of_pos x (show (0 : Int) < ((k : Nat) : Int) by (exact om166 (by k_asm)))
    have h2 := Int.fmod_lt_of_pos x (show (0 : Int) < ((k : Nat) : Int) by (exact om166 (by k_asm)))
    exact ⟨(x.fmod (k : Int)).toNat, by (exact om81 (by k_asm)), by (exact om130 (by k_asm) (by k_asm))⟩
theorem ints_tail {vs : List Value} {ns : List Int} (h : IntsAre vs ns) : IntsAre vs.tail ns.tail := by
  cases h
  · exact .nil
  · assumption
theorem beatD (w : World) (d : Addr) (o : Obj) (k : Nat) (tk : Nat) (hD : DrumO o) (h0 : 0 < k) (h1 : k < 1000) :
  CallsOk w 681 [.ref d, .int (k : Int) tk] 3 200 [(d, o)] (fun _ => True) (fun v post => ∃ (j : Nat) (t : Tok) (o' : Obj), v = .int (j : Int) t ∧ j < k ∧ post = [(d, o')] ∧ DrumO o') := by
  (first | (refine hideW ?_; intro gG9; obtain ⟨vs, ns, n, zq1, hi, hl⟩ := hD; refine (?_ : wpAny _ _ _ _ _ _); clear gG9; (first | subst zq1 | cases zq1)) | obtain ⟨vs, ns, n, rfl, hi, hl⟩ := hD)
  refine CallsOk.mono (beat_ok w d vs ns n (k : Int) tk hi hl (by (exact om166 (by k_asm))) (by (exact om167 (by k_asm)))) ?_
  rintro v post ⟨t, n', rfl, rfl⟩
  (first | (refine hideW ?_; intro gG9; obtain ⟨j, e, hj⟩ := drawn_lt ns k h0; refine (?_ : wpAny _ _ _ _ _ _); clear gG9) | obtain ⟨j, e, hj⟩ := drawn_lt ns k h0)
  rw [e]
  exact ⟨j, t, _, rfl, hj, rfl, _, _, _, rfl, ints_tail hi, by rw [List.length_tail]; (exact om168 (by k_asm))⟩
theorem menu_at {prog : Program} {w : World} {A : Around} {E : Value → Shared → Prop} {s : Shared} {h₀ : Heap} {L : Addr} {news : List (Addr × Obj)} {value slice : PySem.Expr} {l : Addr} {vs : List Value} {n j : Nat} {u : Tok} {Q : Value → Shared → Prop} (P : Value → Prop)
    (N : News h₀ L s.heap news) (hm : (l, listOf vs.toArray n) ∈ news) (hj : j < vs.length) (hb : vs.length < 1000000) (hP : ∀ v ∈ vs, P v) (h : ∀ v, P v → Q v s)
    (hs : ∀ u, subscripted slice false (.ref l) (.int (j : Int) u) = operate [.ref l, .int (j : Int) u] (getItem (.ref l) (.int (j : Int) u)) := by intro u; with_unfolding_all rfl) :
    wpAny (model prog w) A (subscriptTail value slice (.ref l) (.int (j : Int) u)) Q E s :=
  item_at N hm (List.getElem?_eq_getElem hj) rfl (by (exact om169 (by k_asm) (by k_asm))) (h _ (hP _ (List.getElem_mem hj))) (hs u)
/-- a base of the menu -/
noncomputable def BaseV (v : Value) : Prop := ∃ b t, v = .int b t ∧ (b = 1 ∨ b = 37 ∨ b = 0 ∨ (2 ≤ b ∧ b ≤ 36))
/-- a short text of small signs -/
noncomputable def TextV (k : Nat) (v : Value) : Prop := ∃ x t, v = .str x t ∧ x.length ≤ k ∧ ∀ c ∈ x.cps.toList, c < 128
/-- a list of drawn texts on its way -/
structure WS where
  o : Obj
  vs : List Value
  n : Nat
  os : List (Option Str)
noncomputable def WSOk (k : Nat) (j : Nat) (c : WS) : Prop := DrumO c.o ∧ OSAre c.vs c.os ∧ c.os.length = j ∧ ∀ x, some x ∈ c.os → x.length ≤ k ∧ ∀ c ∈ x.cps.toList, c < 128
noncomputable def SignV (v : Value) : Prop := ∃ c t, v = .str ⟨#[c]⟩ t ∧ c < 128
/-- the signs drawn so far -/
noncomputable def SignsOk (i : Nat) (ys : List Value) (o : Obj) : Prop := DrumO o ∧ ∃ cs : List Nat, OSAre ys (cs.map sgn) ∧ cs.length = i ∧ ∀ c ∈ cs, c < 128
theorem SignsOk.snoc {i : Nat} {ys : List Value} {o o' : Obj} {v : Value} (h : SignsOk i ys o) (hD : DrumO o') (hv : SignV v) : SignsOk (i + 1) (ys ++ [v]) o' := by
  (first | (refine hideW ?_; intro gG9; obtain ⟨_, cs, h1, h2, h3⟩ := h; refine (?_ : wpAny _ _ _ _ _ _); clear gG9) | obtain ⟨_, cs, h1, h2, h3⟩ := h)
  (first | (refine hideW ?_; intro gG9; obtain ⟨c, t, zq1, hc⟩ := hv; refine (?_ : wpAny _ _ _ _ _ _); clear gG9; (first | subst zq1 | cases zq1)) | obtain ⟨c, t, rfl, hc⟩ := hv)
  refine ⟨hD, cs ++ [c], ?_, by simp [h2], fun x hx => ?_⟩
  · rw [List.map_append]
    exact OSAre.snoc h1 ⟨t, rfl⟩
  · rcases List.mem_append.mp hx with hx | hx
    · exact h3 x hx
    · rw [List.mem_singleton.mp hx]; exact hc
theorem app_at {prog : Program} {w : World} {A : Around} {E : Value → Shared → Prop} {s : Shared} {h₀ : Heap} {L : Addr} {m : Str → Option Value} {all rest : List (Addr × Obj)} {l : Addr} {vs : List Value} {n : Nat} {v : Value} {Q : Value → Shared → Prop}
    (F : Fr h₀ L s.heap m) (N : News h₀ L s.heap all) (hp : PickAll [(l, listOf vs.toArray n)] all rest) (off : Off [(l, listOf vs.toArray n)] rest) (hsz : vs.length ≤ 1000)
    (h : ∀ h', Fr h₀ L h' m → News h₀ L h' ((l, listOf (vs ++ [v]).toArray (n + 1)) :: rest) → Q .none { s with heap := h' }) :
    wpAny (model prog w) A (call (.builtin "list.append") [.ref l, v]) Q E s := by
  have N' : News h₀ L s.heap ((l, listOf vs.toArray n) :: rest) := fun q hq => N q (hp.sub q hq)
  have hl := N' _ (.head _)
  refine append_at (hsz := by rw [sizeLine_eq, List.size_toArray]; (exact Nat.le_trans (by with_reducible assumption) (Nat.le_of_ble_eq_true rfl))) hl.1 fun h' hs hD => h h' (F.change hs hl.2.1 hl.2.2) fun q hq => ?_
  rcases List.mem_cons.mp hq with rfl | hq
  · exact ⟨by rw [hD, List.push_toArray], hl.2⟩
  · exact ⟨(hs.2 q.1 (fun e => off _ (.head _) q hq e.symm)).trans (N' q (.tail _ hq)).1, (N' q (.tail _ hq)).2⟩
theorem text_app {x : Str} {cs : List Nat} {k n : Nat} (h1 : x.length ≤ k) (h2 : ∀ c ∈ x.cps.toList, c < 128) (h3 : cs.length = n) (h4 : ∀ c ∈ cs, c < 128) (h : k + n ≤ 40) : (x ++ (⟨cs.toArray⟩ : Str)).length ≤ 40 ∧ ∀ c ∈ (x ++ (⟨cs.toArray⟩ : Str)).cps.toList, c < 128 := by
  have e : (x ++ (⟨cs.toArray⟩ : Str)).cps.toList = x.cps.toList ++ cs := by show (x.cps ++ cs.toArray).toList = _; simp
  have el : (x ++ (⟨cs.toArray⟩ : Str)).length = x.length + cs.length := by show (x.cps ++ cs.toArray).size = x.cps.size + cs.length; simp
  refine ⟨by (exact om170 h1 h3 h el), fun c hc => ?_⟩
  rw [e] at hc
  rcases List.mem_append.mp hc with hc | hc
  · exact h2 c hc
  · exact h4 c hc
/-- a draw: nothing to unpack -/
theorem useB {w : World} {d : Addr} {o : Obj} {k tk : Nat} {p : Program} {loose : List Str} {mean : ExcName → Option Value} {mg mb : Str → Option Value} {dp un : Nat} {gd : Option (List Code)} {cn : Str} {cs : Scope} {a : Addr} {ccd : Value} {cl : List (Str × Addr)} {outer : List Env} {A₀ : Around} {base h₀ : Heap} {L : Addr} {m : Str → Option Value} {all rest : List (Addr × Obj)} {hQ : Heap} {gQ : _} {dQ : _} {tQ : Nat} {oQ : _} {Q E : Value → Shared → Prop}
    (hD : DrumO o) (h0 : 0 < k) (h1 : k < 1000) (B : Below A₀ base outer h₀) (F : Fr h₀ L hQ m) (X : (Mine.hd.heap_39 w.params).In h₀) (N : News h₀ L hQ all) (T : Top p loose mean mg mb h₀) (hk : cs.kind = .function)
    (hd : dp + 3 < recursionLimit) (hu : un + 200 < cLine) (hp : PickAll [(d, o)] all rest) (hn : Off [(d, o)] rest)
    (ret : ∀ (j : Nat) (t : Tok) (o' : Obj) (h' : Heap) (tk' : Nat), Fr h₀ L h' m → News h₀ L h' ((d, o') :: rest) → j < k → DrumO o' → Q (.int (j : Int) t) ⟨h', gQ, dQ, tk', oQ⟩) :
    wpAny (model PySem.Challenge.rw_pq1336_01.row.prog w) (ktrTop dp un gd cn cs L a ccd cl outer) (call (.ref 681) [.ref d, .int (k : Int) tk]) Q E ⟨hQ, gQ, dQ, tQ, oQ⟩ := by
  refine useP (beatD w d o k tk hD h0 h1) B F X N T hk hd hu trivial hp hn ?_
  rintro v post h' tk' F' N' _ ⟨j, t, o', rfl, hj, rfl, hD'⟩
  exact ret j t o' h' tk' F' N' hj hD'
theorem useT {w : World} {f : Addr} {vs : List Value} {dN uN : Nat} {pre : List (Addr × Obj)} {Hyp : Heap → Prop} {Post : Value → List (Addr × Obj) → Prop} {p : Program} {loose : List Str} {mean : ExcName → Option Value} {mg mb : Str → Option Value} {dp un : Nat} {gd : Option (List Code)} {cn : Str} {cs : Scope} {a : Addr} {ccd : Value} {cl : List (Str × Addr)} {outer : List Env} {A₀ : Around} {base h₀ : Heap} {L : Addr} {m : Str → Option Value} {all rest : List (Addr × Obj)} {hQ : Heap} {gQ : _} {dQ : _} {tQ : Nat} {oQ : _} {Q E : Value → Shared → Prop}
    (H : CallsT w f vs dN uN pre Hyp Post) (B : Below A₀ base outer h₀) (F : Fr h₀ L hQ m) (X : (Mine.hd.heap_39 w.params).In h₀) (N : News h₀ L hQ all) (T : Top p loose mean mg mb h₀) (XB : (Mine.hd.heap_39 w.params).In base) (TB : Top p loose mean mg mb base) (D : KtsDicts (outer.filterMap (·.frame)) h₀) (hk : cs.kind = .function)
    (hd : dp + dN < recursionLimit) (hu : un + uN < cLine) (hy : Hyp hQ) (hp : PickAll pre all rest) (hn : Off pre rest)
    (ret : ∀ (v : Value) (post : List (Addr × Obj)) (h' : Heap) (tk' : Nat) (h₀' : Heap), KtsTurn (outer.filterMap (·.frame)) h₀ h₀' → Fr h₀' L h' m → News h₀' L h' (post ++ rest) → Off post rest → Post v post → Below A₀ base outer h₀' → (Mine.hd.heap_39 w.params).In h₀' → Top p loose mean mg mb h₀' → KtsDicts (outer.filterMap (·.frame)) h₀' → Q v ⟨h', gQ, dQ, tk', oQ⟩) :
    wpAny (model PySem.Challenge.rw_pq1336_01.row.prog w) (ktrTop dp un gd cn cs L a ccd cl outer) (call (.ref f) vs) Q E ⟨hQ, gQ, dQ, tQ, oQ⟩ :=
  H p loose mean mg mb dp un gd cn cs a ccd cl outer A₀ base h₀ L m rest ⟨hQ, gQ, dQ, tQ, oQ⟩ Q E B F X (fun q hq => N q (hp.sub q hq)) hn T XB TB D hk hd hu hy ret

end

section
-- part Cmp
/-! two lists of nothings and ints, or of nothings and texts, compared -/
noncomputable def datI : Option Int → PyData
  | none => .none
  | some i => .int i
noncomputable def datS : Option Str → PyData
  | none => .none
  | some x => .str x
theorem reads_OI {h : Heap} : ∀ {vs : List Value} {xs : List (Option Int)}, OIAre vs xs → ReadsAll h vs (xs.map datI) []
  | [], [], _ => .nil
  | [], _ :: _, r => by have := r.1; simp at this
  | _ :: _, [], r => by have := r.1; simp at this
  | v :: vs, x :: xs, r => by
    obtain ⟨x', e, hv⟩ := r.2 0 v rfl
    have ht : OIAre vs xs := ⟨by have := r.1; simpa using this, fun i u hu => r.2 (i + 1) u hu⟩
    simp at e
    subst e
    refine ReadsAll.cons (as := []) (bs := []) ?_ (reads_OI ht)
    cases x with
    | none => obtain rfl : v = .none := hv; exact .none
    | some i => obtain ⟨t, rfl⟩ := hv; exact .int i t
theorem reads_OS {h : Heap} : ∀ {vs : List Value} {xs : List (Option Str)}, OSAre vs xs → ReadsAll h vs (xs.map datS) []
  | [], [], _ => .nil
  | [], _ :: _, r => by have := r.1; simp at this
  | _ :: _, [], r => by have := r.1; simp at this
  | v :: vs, x :: xs, r => by
    obtain ⟨x', e, hv⟩ := r.2 0 v rfl
    have ht : OSAre vs xs := ⟨by have := r.1; simpa using this, fun i u hu => r.2 (i + 1) u hu⟩
    simp at e
    subst e
    refine ReadsAll.cons (as := []) (bs := []) ?_ (reads_OS ht)
    cases x with
    | none => obtain rfl : v = .none := hv; exact .none
    | some i => obtain ⟨t, rfl⟩ := hv; exact .str i t
theorem eqvI : ∀ xs : List (Option Int), PyData.eqvAll (xs.map datI) (xs.map datI) = true
  | [] => by simp [PyData.eqvAll]
  | none :: r => by simp [PyData.eqvAll, PyData.eqv, datI, eqvI r]
  | some _ :: r => by simp [PyData.eqvAll, PyData.eqv, datI, eqvI r]
theorem eqvS : ∀ xs : List (Option Str), PyData.eqvAll (xs.map datS) (xs.map datS) = true
  | [] => by simp [PyData.eqvAll]
  | none :: r => by simp [PyData.eqvAll, PyData.eqv, datS, eqvS r]
  | some _ :: r => by simp [PyData.eqvAll, PyData.eqv, datS, eqvS r]
theorem layI : ∀ xs : List (Option Int), PyData.canLayAll0 (xs.map datI) = true ∧ PyData.depthAll (xs.map datI) = 0
  | [] => ⟨rfl, rfl⟩
  | none :: r => by simp [PyData.canLayAll0, PyData.canLay0, PyData.depthAll, PyData.depth, datI, layI r]
  | some _ :: r => by simp [PyData.canLayAll0, PyData.canLay0, PyData.depthAll, PyData.depth, datI, layI r]
theorem layS : ∀ xs : List (Option Str), (∀ x, some x ∈ xs → PyData.strOk x = true) → PyData.canLayAll0 (xs.map datS) = true ∧ PyData.depthAll (xs.map datS) = 0
  | [], _ => ⟨rfl, rfl⟩
  | none :: r, h => by
    have := layS r fun x hx => h x (.tail _ hx)
    simp [PyData.canLayAll0, PyData.canLay0, PyData.depthAll, PyData.depth, datS, this]
  | some x :: r, h => by
    have := layS r fun x hx => h x (.tail _ hx)
    have h2 := h x (.head _)
    simp [PyData.canLayAll0, PyData.canLay0, PyData.depthAll, PyData.depth, datS, this, h2]
section
variable {prog : Program} {w : World} {A : Around} {E : Value → Shared → Prop} {s : Shared} {h₀ : Heap} {L a b : Addr} {news : List (Addr × Obj)} {vs us : List Value} {n k : Nat} {Q : Value → Shared → Prop}
theorem readsI {xs : List (Option Int)} (N : News h₀ L s.heap news) (h1 : (a, listOf vs.toArray n) ∈ news) (hv : OIAre vs xs) : Reads s.heap (.ref a) (.list (xs.map datI)) [a] :=
  reads_list_at (N _ h1).1 rfl rfl (by rw [List.toList_toArray]; exact reads_OI hv)
theorem readsS {xs : List (Option Str)} (N : News h₀ L s.heap news) (h1 : (a, listOf vs.toArray n) ∈ news) (hv : OSAre vs xs) : Reads s.heap (.ref a) (.list (xs.map datS)) [a] :=
  reads_list_at (N _ h1).1 rfl rfl (by rw [List.toList_toArray]; exact reads_OS hv)
theorem shapedI (xs : List (Option Int)) : SeqAt.shaped (.list (xs.map datI)) = true := by
  simp [SeqAt.shaped, PyData.canLay0, PyData.depth, layI]
theorem shapedS (xs : List (Option Str)) (hx : ∀ x, some x ∈ xs → PyData.strOk x = true) : SeqAt.shaped (.list (xs.map datS)) = true := by
  simp [SeqAt.shaped, PyData.canLay0, PyData.depth, layS xs hx]
theorem eqI {xs : List (Option Int)} (N : News h₀ L s.heap news) (h1 : (a, listOf vs.toArray n) ∈ news) (h2 : (b, listOf us.toArray k) ∈ news) (hv : OIAre vs xs) (hu : OIAre us xs) (hun : A.units + 64 < cLine)
    (h : Q (.bool true) s) : wpAny (model prog w) A (compareOp .Eq (.ref a) (.ref b)) Q E s := by
  refine eq_dataH (readsI N h1 hv) (readsI N h2 hu) (shapedI xs) (shapedI xs) hun ?_
  rw [PyData.eqv, eqvI]; exact h
theorem neI {xs : List (Option Int)} (N : News h₀ L s.heap news) (h1 : (a, listOf vs.toArray n) ∈ news) (h2 : (b, listOf us.toArray k) ∈ news) (hv : OIAre vs xs) (hu : OIAre us xs) (hun : A.units + 64 < cLine)
    (h : Q (.bool false) s) : wpAny (model prog w) A (compareOp .NotEq (.ref a) (.ref b)) Q E s := by
  refine ne_dataH (readsI N h1 hv) (readsI N h2 hu) (shapedI xs) (shapedI xs) hun ?_
  rw [PyData.eqv, eqvI]; exact h
theorem eqS {xs : List (Option Str)} (hx : ∀ x, some x ∈ xs → PyData.strOk x = true) (N : News h₀ L s.heap news) (h1 : (a, listOf vs.toArray n) ∈ news) (h2 : (b, listOf us.toArray k) ∈ news) (hv : OSAre vs xs) (hu : OSAre us xs) (hun : A.units + 64 < cLine)
    (h : Q (.bool true) s) : wpAny (model prog w) A (compareOp .Eq (.ref a) (.ref b)) Q E s := by
  refine eq_dataH (readsS N h1 hv) (readsS N h2 hu) (shapedS xs hx) (shapedS xs hx) hun ?_
  rw [PyData.eqv, eqvS]; exact h
theorem neS {xs : List (Option Str)} (hx : ∀ x, some x ∈ xs → PyData.strOk x = true) (N : News h₀ L s.heap news) (h1 : (a, listOf vs.toArray n) ∈ news) (h2 : (b, listOf us.toArray k) ∈ news) (hv : OSAre vs xs) (hu : OSAre us xs) (hun : A.units + 64 < cLine)
    (h : Q (.bool false) s) : wpAny (model prog w) A (compareOp .NotEq (.ref a) (.ref b)) Q E s := by
  refine ne_dataH (readsS N h1 hv) (readsS N h2 hu) (shapedS xs hx) (shapedS xs hx) hun ?_
  rw [PyData.eqv, eqvS]; exact h
end
theorem small_ok {x : Str} (h : ∀ c ∈ x.cps.toList, c < 128) : PyData.strOk x = true := by
  rw [PyData.strOk, Array.all_eq_true']
  intro c hc
  have := h c (Array.mem_toList_iff.mpr hc)
  simp
  (exact Nat.lt_of_lt_of_le (by with_reducible assumption) (Nat.le_of_ble_eq_true rfl))

end

section
-- part ExchP
/-! the exchange of signs, plainly -/
structure ORow where
  old : Str
  row : Str
  b : List Nat
noncomputable def OLDS : List ORow := [⟨Str.ofString "abc", Str.ofString "abc", [97, 98, 99]⟩, ⟨Str.ofString "a-d", Str.ofString "abcd", [97, 98, 99, 100]⟩, ⟨Str.ofString "xyz", Str.ofString "xyz", [120, 121, 122]⟩,
  ⟨Str.ofString "c-ea", Str.ofString "cdea", [99, 100, 101, 97]⟩, ⟨Str.ofString "b", Str.ofString "b", [98]⟩]
noncomputable def NEWS : List ORow := [⟨Str.ofString "P-T", Str.ofString "PQRST", [80, 81, 82, 83, 84]⟩, ⟨Str.ofString "1-5", Str.ofString "12345", [49, 50, 51, 52, 53]⟩, ⟨Str.ofString "PQRST", Str.ofString "PQRST", [80, 81, 82, 83, 84]⟩, ⟨Str.ofString "12345", Str.ofString "12345", [49, 50, 51, 52, 53]⟩]
noncomputable def SIGNS : List Nat := [97, 98, 99, 100, 101, 120, 121, 122, 32, 45]
/-- what is asked of a row -/
noncomputable def rowOk (r : ORow) : Bool := decide (spreadF r.old.cps.toList = some r.b) && decide (r.row.cps.toList = r.b) && decide (spreadF r.b = some r.b) && decide (r.old.length ≤ 20) && decide (r.b.length ≤ 5) && r.old.cps.toList.all (fun c => decide (c < 128)) && r.b.all (fun c => decide (c < 128))
theorem olds_ok : ∀ r ∈ OLDS, rowOk r = true := by decide +kernel
theorem news_ok : ∀ r ∈ NEWS, rowOk r = true ∧ r.b.length = 5 := by decide +kernel
theorem olds_len : ∀ r ∈ OLDS, 1 ≤ r.b.length := by decide +kernel
theorem rowOk.out {r : ORow} (h : rowOk r = true) : spreadF r.old.cps.toList = some r.b ∧ r.row.cps.toList = r.b ∧ spreadF r.b = some r.b ∧ r.old.length ≤ 20 ∧ r.b.length ≤ 5 ∧ (∀ c ∈ r.old.cps.toList, c < 128) ∧ ∀ c ∈ r.b, c < 128 := by
  simp only [rowOk, Bool.and_eq_true, decide_eq_true_eq, List.all_eq_true] at h
  obtain ⟨⟨⟨⟨⟨⟨h1, h2⟩, h3⟩, h4⟩, h5⟩, h6⟩, h7⟩ := h
  exact ⟨h1, h2, h3, h4, h5, h6, h7⟩
/-- where a sign stands in the old row, and what it turns into -/
noncomputable def seatOk (r q : ORow) (c : Nat) : Bool := match PySem.Builtin.Str.occurrences r.row ⟨#[c]⟩ 0 r.row.length 1 with
  | [] => decide (chF (r.b.zip q.b) c = c)
  | i :: _ => decide (i < 5) && decide (q.row.cps.toList[i]? = some (chF (r.b.zip q.b) c))
theorem seats : ∀ r ∈ OLDS, ∀ q ∈ NEWS, ∀ c ∈ SIGNS, seatOk r q c = true := by decide +kernel
theorem backs : ∀ r ∈ OLDS, ∀ q ∈ NEWS, ∀ c ∈ SIGNS, chF ((q.b.take r.b.length).zip r.b) (chF (r.b.zip q.b) c) = c ∧ chF (r.b.zip q.b) c < 128 := by decide +kernel
theorem seat_cases {r q : ORow} {c : Nat} (h : seatOk r q c = true) :
    (PySem.Builtin.Str.occurrences r.row ⟨#[c]⟩ 0 r.row.length 1 = [] ∧ chF (r.b.zip q.b) c = c) ∨ ∃ i rest, PySem.Builtin.Str.occurrences r.row ⟨#[c]⟩ 0 r.row.length 1 = i :: rest ∧ i < 5 ∧ q.row.cps.toList[i]? = some (chF (r.b.zip q.b) c) := by
  unfold seatOk at h
  split at h
  · rename_i e
    exact .inl ⟨e, of_decide_eq_true h⟩
  · rename_i i rest e
    rw [Bool.and_eq_true, decide_eq_true_eq, decide_eq_true_eq] at h
    exact .inr ⟨i, rest, e, h.1, h.2⟩
theorem heads : ∀ r ∈ OLDS, ∀ q ∈ NEWS, spreadF (q.b.take r.b.length) = some (q.b.take r.b.length) ∧ spreadF (q.b.take (r.b.length - 1)) = some (q.b.take (r.b.length - 1)) := by decide +kernel
theorem mapT_back {r q : ORow} (hr : r ∈ OLDS) (hq : q ∈ NEWS) {x : Str} (hx : ∀ c ∈ x.cps.toList, c ∈ SIGNS) : mapT (chF ((q.b.take r.b.length).zip r.b)) (mapT (chF (r.b.zip q.b)) x) = x := by
  apply str_eq
  show ((List.map _ (List.map _ _).toArray.toList)).toArray.toList = _
  rw [List.toList_toArray, List.toList_toArray, List.map_map]
  refine (List.map_congr_left (g := id) fun c hc => ?_).trans (List.map_id _)
  exact (backs r hr q hq c (hx c hc)).1

end

section
-- part SpellP
noncomputable def dg (k : Nat) : Nat := if k < 10 then 48 + k else 87 + k
noncomputable abbrev LIT : Str := Str.ofString "0123456789abcdefghijklmnopqrstuvwxyz"
theorem item_dg : ∀ k : Nat, k < 36 → Txt.item LIT (k : Int) = ⟨#[dg k]⟩ := by decide +kernel
theorem dg_facts : ∀ k : Nat, k < 36 → dg k < 128 ∧ dg k ≠ 43 ∧ dg k ≠ 45 ∧ digV (dg k) = (k : Int) := by decide +kernel
noncomputable def GoodDig (b : Int) (q : Nat) : Prop := q < 128 ∧ q ≠ 43 ∧ q ≠ 45 ∧ digV q < b
theorem valOf_shift (cs : List Nat) (b a : Int) : cs.foldl (fun v c => v * b + digV c) a = a * b ^ cs.length + valOf cs b := by
  induction cs generalizing a with
  | nil => simp [valOf]
  | cons c r ih =>
    have e : valOf (c :: r) b = (0 * b + digV c) * b ^ r.length + valOf r b := by
      rw [valOf, List.foldl_cons, ih]
    rw [List.foldl_cons, ih, e, List.length_cons, Int.pow_succ, Int.zero_mul, Int.zero_add, Int.add_mul, Int.mul_assoc a b, Int.mul_comm b, ← Int.mul_assoc, Int.add_assoc]
theorem valOf_cons (c : Nat) (cs : List Nat) (b : Int) : valOf (c :: cs) b = digV c * b ^ cs.length + valOf cs b := by
  rw [valOf, List.foldl_cons, valOf_shift, Int.zero_mul, Int.zero_add]
theorem take1_of {x : Str} {c : Nat} {r : List Nat} (h : x.cps.toList = c :: r) : (Txt.slice x none (some 1)).cps.toList = [c] := by
  have e := slice_to_nn (x := x) 1
  rw [show ((1 : Nat) : Int) = 1 from rfl, h] at e
  exact e
theorem signed_iff {x : Str} {c : Nat} {r : List Nat} (h : x.cps.toList = c :: r) : signed x = true ↔ c = 45 ∨ c = 43 := by
  have e := take1_of h
  have e1 : (Str.ofString "-").cps.toList = [45] := by decide
  have e2 : (Str.ofString "+").cps.toList = [43] := by decide
  unfold signed
  rw [any_two]
  constructor
  · rintro (q | q)
    · rw [q, e1] at e; simp at e; exact .inl e.symm
    · rw [q, e2] at e; simp at e; exact .inr e.symm
  · rintro (q | q)
    · exact .inl (str_eq (by rw [e, e1, q]))
    · exact .inr (str_eq (by rw [e, e2, q]))
theorem minus_iff {x : Str} {c : Nat} {r : List Nat} (h : x.cps.toList = c :: r) : minusB x = true ↔ c = 45 := by
  have e := take1_of h
  have e1 : (Str.ofString "-").cps.toList = [45] := by decide
  unfold minusB
  rw [beq_iff, e, e1]
  simp
theorem fig_good {d : Str} {b : Int} {m : Bool} {n : Int} (hb : 2 ≤ b) (hne : d.cps.toList ≠ []) (hg : ∀ q ∈ d.cps.toList, GoodDig b q) (hv : valOf d.cps.toList b = (n.natAbs : Int)) (hn : n ≤ 2147483647 ∧ -2147483647 ≤ n) (hm : m = true ↔ n < 0) :
    figOf (bare2 d b) (base2 d b) m = some n := by
  have hno : ¬ (hexed d = true ∧ sixt b = true) := by
    rintro ⟨h1, h2⟩
    have hb16 : b = 16 := by
      have : b = 16 ∨ b = 0 := by
        unfold sixt at h2
        simp at h2
        rcases h2 with h2 | h2
        · exact .inl h2.symm
        · exact .inr h2.symm
      (exact om281 (by k_asm) (by k_asm))
    have e := slice_to_nn (x := d) 2
    rw [show ((2 : Nat) : Int) = 2 from rfl] at e
    unfold hexed at h1
    rw [any_two] at h1
    have e1 : (Str.ofString "0x").cps.toList = [48, 120] := by decide
    have e2 : (Str.ofString "0X").cps.toList = [48, 88] := by decide
    have bad : ∀ z, z ∈ d.cps.toList → digV z = 33 → False := fun z hz h => by
      have := (hg z hz).2.2.2
      (exact om282 (by k_asm) (by k_asm) (by k_asm))
    rcases h1 with h1 | h1
    · rw [h1, e1] at e
      exact bad 120 (List.mem_of_mem_take (i := 2) (by rw [← e]; simp)) (by decide)
    · rw [h1, e2] at e
      exact bad 88 (List.mem_of_mem_take (i := 2) (by rw [← e]; simp)) (by decide)
  rw [bare2, if_neg hno, base2, if_neg hno, if_neg (by (exact om283 (by k_asm))), figOf, if_neg hne, if_pos ⟨fun c hc => (hg c hc).2.2.2, by rw [hv]; (exact om284 (by k_asm))⟩, hv]
  cases m with
  | true =>
    have := hm.mp rfl
    simp only [if_true, Option.some.injEq]
    (exact om285 (by k_asm))
  | false =>
    have : ¬ n < 0 := fun h => absurd (hm.mpr h) (by decide)
    simp only [Bool.false_eq_true, if_false, Option.some.injEq]
    (exact om286 (by k_asm))
theorem spelled_read {x : Str} {b n : Int} {cs : List Nat} (hb : 2 ≤ b) (hx : x.cps.toList = (if n < 0 then [45] else []) ++ cs) (hne : cs ≠ []) (hg : ∀ q ∈ cs, GoodDig b q) (hv : valOf cs b = (n.natAbs : Int)) (hn : n ≤ 2147483647 ∧ -2147483647 ≤ n) : strtoiF x b = some n := by
  unfold strtoiF
  by_cases h0 : n < 0
  · rw [if_pos h0] at hx
    have hx' : x.cps.toList = 45 :: cs := hx
    have hs : signed x = true := (signed_iff hx').mpr (.inl rfl)
    have e : (bare1 x).cps.toList = cs := by
      rw [bare1, if_pos hs]
      have e := slice_from_nn (x := x) 1
      rw [show ((1 : Nat) : Int) = 1 from rfl, hx'] at e
      exact e
    exact fig_good hb (by rw [e]; exact hne) (by rw [e]; exact hg) (by rw [e]; exact hv) hn ⟨fun _ => h0, fun _ => (minus_iff hx').mpr rfl⟩
  · rw [if_neg h0, List.nil_append] at hx
    cases cs with
    | nil => exact absurd rfl hne
    | cons c r =>
      have hc := hg c (by simp)
      have hs : ¬ signed x = true := fun q => by
        rcases (signed_iff hx).mp q with q | q
        · exact hc.2.2.1 q
        · exact hc.2.1 q
      have e : bare1 x = x := if_neg hs
      rw [e]
      exact fig_good hb (by rw [hx]; exact hne) (by rw [hx]; exact hg) (by rw [hx]; exact hv) hn ⟨fun q => absurd ((minus_iff hx).mp q) hc.2.2.1, fun q => absurd q h0⟩

end

section
-- part Spell
noncomputable def SpInv (b n : Int) (rest : Int) (found : Str) : Prop :=
  0 ≤ rest ∧ found.length ≤ 32 ∧ (∀ q ∈ found.cps.toList, GoodDig b q) ∧ rest * b ^ found.cps.toList.length + valOf found.cps.toList b = (n.natAbs : Int) ∧ rest * 2 ^ found.cps.toList.length ≤ (n.natAbs : Int)
theorem cat_toList (x y : Str) : (x ++ y).cps.toList = x.cps.toList ++ y.cps.toList := by rw [Str.cps_append]; simp
theorem dash_toList : (Str.ofString "-").cps.toList = [45] := by decide
theorem nul_toList : (Str.ofString "").cps.toList = [] := by decide
theorem nul_len : (Str.ofString "").length = 0 := by decide
theorem len_toList (x : Str) : x.cps.toList.length = x.length := by simp [Str.length]
theorem spInv_step {b n rest : Int} {found : Str} (hb : 2 ≤ b ∧ b ≤ 36) (hn : n ≤ 2147483647 ∧ -2147483647 ≤ n) (h : SpInv b n rest found) (h0 : 0 < rest ∨ found.cps.toList = []) :
    SpInv b n (Int.fdiv rest b) (Txt.item LIT (Int.fmod rest b) ++ found) ∧ Int.fdiv rest b ≤ rest ∧ (0 < rest → Int.fdiv rest b < rest) ∧ (Txt.item LIT (Int.fmod rest b) ++ found).cps.toList ≠ [] := by
  (first | (refine hideW ?_; intro gG9; obtain ⟨h1, h2, h3, h4, h5⟩ := h; refine (?_ : wpAny _ _ _ _ _ _); clear gG9) | obtain ⟨h1, h2, h3, h4, h5⟩ := h)
  have hm0 : 0 ≤ Int.fmod rest b := Int.fmod_nonneg_of_pos _ (by (exact om247 (by k_asm)))
  have hm1 : Int.fmod rest b < b := Int.fmod_lt_of_pos _ (by (exact om247 (by k_asm)))
  have hdm : b * Int.fdiv rest b + Int.fmod rest b = rest := Int.mul_fdiv_add_fmod rest b
  generalize hq : Int.fdiv rest b = q at *
  generalize hr : Int.fmod rest b = r at *
  obtain ⟨k, rfl⟩ : ∃ k : Nat, r = (k : Int) := ⟨r.toNat, by (exact om81 (by k_asm))⟩
  have hk : k < 36 := by (exact om248 (by k_asm) (by k_asm))
  rw [item_dg k hk]
  (first | (refine hideW ?_; intro gG9; obtain ⟨d1, d2, d3, d4⟩ := dg_facts k hk; refine (?_ : wpAny _ _ _ _ _ _); clear gG9) | obtain ⟨d1, d2, d3, d4⟩ := dg_facts k hk)
  have e : ((⟨#[dg k]⟩ : Str) ++ found).cps.toList = dg k :: found.cps.toList := by
    rw [Str.cps_append]; simp
  have hq0 : 0 ≤ q := by
    rcases Int.lt_or_le q 0 with hh | hh
    · exfalso
      have : b * q ≤ b * (-1) := Int.mul_le_mul_of_nonneg_left (by (exact om249 (by k_asm))) (by (exact om250 (by k_asm)))
      (exact om251 h1 hm1 hdm this)
    · exact hh
  have hqb : q + q ≤ b * q := by
    have : 2 * q ≤ b * q := Int.mul_le_mul_of_nonneg_right hb.1 hq0
    (exact om252 (by k_asm))
  have hlen : found.cps.toList.length ≤ 31 := by
    rcases h0 with h0 | h0
    · rcases Nat.lt_or_ge found.cps.toList.length 32 with hh | hh
      · (exact om253 (by k_asm))
      · exfalso
        have p : (2 : Int) ^ 32 ≤ 2 ^ found.cps.toList.length := by
          have := Nat.pow_le_pow_right (n := 2) (by decide) hh
          exact_mod_cast this
        have : 1 * (2 : Int) ^ found.cps.toList.length ≤ rest * 2 ^ found.cps.toList.length := Int.mul_le_mul_of_nonneg_right (by (exact om254 (by k_asm))) (by (exact om255 (by k_asm)))
        have e32 : (2 : Int) ^ 32 = 4294967296 := by decide
        (exact om256 (by k_asm) (by k_asm) (by k_asm) (by k_asm))
    · rw [h0]; decide
  refine ⟨⟨hq0, ?_, ?_, ?_, ?_⟩, by (exact om257 (by k_asm) (by k_asm) (by k_asm)), fun _ => by (exact om258 (by k_asm) (by k_asm) (by k_asm)), by rw [e]; simp⟩
  · rw [← len_toList, e, List.length_cons]; (exact om259 (by k_asm))
  · rw [e]
    intro z hz
    rcases List.mem_cons.mp hz with rfl | hz
    · exact ⟨d1, d2, d3, by rw [d4]; exact hm1⟩
    · exact h3 z hz
  · rw [e, valOf_cons, List.length_cons, d4, Int.pow_succ, ← h4, ← hdm, Int.add_mul, Int.mul_comm b q, Int.mul_assoc q b, Int.mul_comm b (b ^ _), Int.add_assoc]
  · rw [e, List.length_cons, Int.pow_succ]
    have p0 : (0 : Int) ≤ 2 ^ found.cps.toList.length := Int.pow_nonneg (by decide)
    have : (q * 2) * 2 ^ found.cps.toList.length ≤ rest * 2 ^ found.cps.toList.length := Int.mul_le_mul_of_nonneg_right (by (exact om260 (by k_asm) (by k_asm))) p0
    rw [Int.mul_assoc, Int.mul_comm 2] at this
    (exact om261 (by k_asm) (by k_asm))
set_option maxRecDepth 100000 in
set_option maxHeartbeats 1000000 in
theorem spelled_ok (w : World) (n : Int) (t : Nat) (b : Int) (tb : Nat) (hn : -1000 ≤ n ∧ n ≤ 2147483647) (hb : 2 ≤ b ∧ b ≤ 36) : CallsOk w 709 [.int n t, .int b tb] 6 300 [] (fun _ => True)
    (fun v post => (∃ x t, v = .str x t ∧ x.length ≤ 40 ∧ (∀ c ∈ x.cps.toList, c < 128) ∧ strtoiF x b = some n) ∧ post = []) := by
  unfold CallsOk
  have tg9 : Mine.Tg 13825 := tgI 13825
  k_fill
  intro p loose mean mg mb dp un gd cn cs a ccd cl outer A₀ base h₀ L m rest s Q E B F X N hoff T hk hd hu hy hret
  refine wpAny_call ?_
  k_dflt (refine' code_defW ?y0k1 ?y0k2 ?y0k3 ?y0k4 ?y0kO ?y0k5 ?y0kA ?y0kF ?y0kK ?y0k6 ?y0k7 ?y0k8 ?y0k9 ?y0kB ?y0kR ?_ ?y0c2 ?y0c3 ?y0c4 ?y0c5; (case y0kA => exact rfl); (case y0kF => exact rfl); (case y0kK => assumption); (case y0k1 => k_asm); (case y0k2 => k_asm); (case y0k3 => k_asm); (case y0k4 => k_asm); (case y0kO => assumption); (case y0k5 => k_asm); (case y0k6 => k_is); (case y0k7 => k_is); (case y0k8 => ktr_room); (case y0k9 => first | exact BindsTo.of_eq rfl | exact binds_K (by k_in) rfl (by k_is) rfl rfl rfl); (case y0c5 => decide); (case y0kB => exact locs rfl); (case y0kR => assumption); (case y0c2 => exact rfl); (case y0c3 => exact rfl); (case y0c4 => exact rfl); k_whole; intro g1 L1 h1 FG1 F1 N1 B1 X1 T1 G1; (try k_lift B1); (first | ((refine name_env2 ?_); intro tkE aA eE qk xE) | ((try dsimp only); (try k_fold); (try ((refine name_env ?_); intro aA eE xE)))))
  k_with "exec While BoolOp cons nil" => guard_hyp tg9 : Mine.Tg 13825; refine Halt.out ?_
  k_steps
  unfold Halt
  refine' ksw_while (fun _ => []) (fun c : Int × Str × Nat × Nat => [(Str.ofString "rest", .int c.1 c.2.2.1), (Str.ofString "found", .str c.2.1 c.2.2.2)]) (fun _ => True) [] (fun c => SpInv b n c.1 c.2.1) (fun c => c.1.toNat + (if c.2.1.cps.toList = [] then 1 else 0)) (if n < 0 then -n else n, Str.ofString "", _, _) (by assumption) (News.nil) trivial ?hk1 ?hp1 ?turn1
  case hk1 => tb_start
  case hp1 =>
    have e : (Str.ofString "").cps.toList = [] := by decide
    have ea : (if n < 0 then -n else n) = (n.natAbs : Int) := by split <;> (first | exact om262 (by k_asm) | exact om263 (by k_asm))
    refine ⟨by dsimp only; (exact om264 (by k_asm)), by dsimp only; rw [nul_len]; decide, ?_, ?_, ?_⟩
    · dsimp only; rw [e]; exact fun _ h => nomatch h
    · dsimp only; rw [e, ea]; simp [valOf]
    · dsimp only; rw [e, ea]; simp
  case turn1 =>
    intro c u h4 tk4 _ hP F4 N4
    have hP' := hP
    (first | (refine hideW ?_; intro gG9; obtain ⟨hp1, hp2, -⟩ := hP'; refine (?_ : wpAny _ _ _ _ _ _); clear gG9) | obtain ⟨hp1, hp2, -⟩ := hP')
    have hm0 : 0 ≤ Int.fmod c.1 b := Int.fmod_nonneg_of_pos _ (by (exact om247 (by k_asm)))
    have hm1 : Int.fmod c.1 b < b := Int.fmod_lt_of_pos _ (by (exact om247 (by k_asm)))
    k_with "subscriptTail Name BinOp str int" => guard_hyp tg9 : Mine.Tg 13825; (refine KXi.item (n := 36) (by decide) (by omega) (by omega) (by decide) ?_; intro _)
    k_steps
    · have st := spInv_step hb ⟨hn.2, by (exact om265 (by k_asm))⟩ hP (.inl (by assumption))
      refine haltI ?_
      refine' ksw_end (Int.fdiv c.1 b, Txt.item LIT (Int.fmod c.1 b) ++ c.2.1, _, _) (by assumption) (by assumption) (List.forall_mem_nil _) trivial ?hk2 (by (intro z; (first | intro h1 h2 h3 | intro h2 h3); (refine Eq.symm ?_); (repeat (first | with_reducible rfl | refine relI (by first | with_reducible assumption | exact relN h3 (by with_unfolding_all rfl) | exact relP h2 (by with_unfolding_all rfl)) ?_ | refine relK (by first | with_reducible assumption | exact List.forall_mem_nil _ | exact relM h2 rfl) ?_ | exact rfl)); (refine Eq.symm ?_); (repeat (first | with_reducible rfl | exact relS h3 | refine relI (by first | with_reducible assumption | exact relN h3 (by with_unfolding_all rfl) | exact relP h2 (by with_unfolding_all rfl)) ?_ | refine relK (by first | with_reducible assumption | exact List.forall_mem_nil _ | exact relM h2 rfl) ?_ | exact rfl)); done)) st.1 ?hm2
      case hk2 => tb_start
      case hm2 =>
        have h1 := st.2.2.1 (by assumption)
        have h2 := st.1.1
        dsimp only
        rw [if_neg st.2.2.2]
        (exact om266 (by k_asm) (by k_asm))
    · have e0 : c.2.1.cps.toList = [] := empty_text (by with_reducible assumption)
      have st := spInv_step hb ⟨hn.2, by (exact om265 (by k_asm))⟩ hP (.inr e0)
      refine haltI ?_
      refine' ksw_end (Int.fdiv c.1 b, Txt.item LIT (Int.fmod c.1 b) ++ c.2.1, _, _) (by assumption) (by assumption) (List.forall_mem_nil _) trivial ?hk3 (by (intro z; (first | intro h1 h2 h3 | intro h2 h3); (refine Eq.symm ?_); (repeat (first | with_reducible rfl | refine relI (by first | with_reducible assumption | exact relN h3 (by with_unfolding_all rfl) | exact relP h2 (by with_unfolding_all rfl)) ?_ | refine relK (by first | with_reducible assumption | exact List.forall_mem_nil _ | exact relM h2 rfl) ?_ | exact rfl)); (refine Eq.symm ?_); (repeat (first | with_reducible rfl | exact relS h3 | refine relI (by first | with_reducible assumption | exact relN h3 (by with_unfolding_all rfl) | exact relP h2 (by with_unfolding_all rfl)) ?_ | refine relK (by first | with_reducible assumption | exact List.forall_mem_nil _ | exact relM h2 rfl) ?_ | exact rfl)); done)) st.1 ?hm3
      case hk3 => tb_start
      case hm3 =>
        have h1 := st.2.1
        have h2 := st.1.1
        dsimp only
        rw [if_neg st.2.2.2, if_pos e0]
        (exact om267 (by k_asm))
    · have hne := nonempty_text (d := c.2.1) (by with_reducible assumption)
      have h0 : n < 0 := by with_reducible assumption
      have hz : c.1 = 0 := by (exact om268 (by k_asm) (by k_asm))
      have hv := hP.2.2.2.1
      rw [hz, Int.zero_mul, Int.zero_add] at hv
      refine Out.intro (by assumption) (by assumption) [] (List.forall_mem_nil _) ⟨⟨_, _, rfl, ?_, ?_, ?_⟩, rfl⟩
      · have := (by with_reducible assumption : _ ∧ _ ≤ _)
        have e1 : (Str.ofString "-").length = 1 := by decide
        (exact om269 (by k_asm) (by k_asm) (by k_asm))
      · intro q hq
        rw [cat_toList, dash_toList] at hq
        rcases List.mem_append.mp hq with hq | hq
        · rw [List.mem_singleton.mp hq]; decide
        · exact (hP.2.2.1 q hq).1
      · exact spelled_read hb.1 (by rw [if_pos h0, cat_toList, dash_toList]) hne hP.2.2.1 hv ⟨hn.2, by (exact om265 (by k_asm))⟩
    · have hne := nonempty_text (d := c.2.1) (by with_reducible assumption)
      have h0 : ¬ n < 0 := by with_reducible assumption
      have hz : c.1 = 0 := by (exact om268 (by k_asm) (by k_asm))
      have hv := hP.2.2.2.1
      rw [hz, Int.zero_mul, Int.zero_add] at hv
      refine Out.intro (by assumption) (by assumption) [] (List.forall_mem_nil _) ⟨⟨_, _, rfl, ?_, ?_, ?_⟩, rfl⟩
      · rw [Str.length_append]
        have e1 : (Str.ofString "").length = 0 := by decide
        (exact om270 (by k_asm) (by k_asm))
      · intro q hq
        rw [cat_toList, nul_toList] at hq
        exact (hP.2.2.1 q hq).1
      · exact spelled_read hb.1 (by rw [if_neg h0, cat_toList, nul_toList]) hne hP.2.2.1 hv ⟨hn.2, by (exact om271 (by k_asm))⟩

end

section
-- part Beats
set_option maxRecDepth 100000 in
set_option maxHeartbeats 1000000 in
theorem beats_ok (w : World) (l : Addr) (vs : List Value) (ns : List Int) (hi : IntsAre vs ns) (hl : ns.length ≤ 63) : CallsOk w 674 [.ref l] 6 300 [] (fun h => h.IsList l vs.toArray)
    (fun v post => ∃ D ws ms n, v = .ref D ∧ post = [(D, listOf ws.toArray n)] ∧ IntsAre ws ms ∧ ms.length ≤ 90) := by
  unfold CallsOk
  have tg9 : Mine.Tg 73070 := tgI 73070
  k_fill
  intro p loose mean mg mb dp un gd cn cs a ccd cl outer A₀ base h₀ L m rest s Q E B F X N hoff T hk hd hu hy hret
  refine wpAny_call ?_
  k_dflt (refine' code_defW ?y0k1 ?y0k2 ?y0k3 ?y0k4 ?y0kO ?y0k5 ?y0kA ?y0kF ?y0kK ?y0k6 ?y0k7 ?y0k8 ?y0k9 ?y0kB ?y0kR ?_ ?y0c2 ?y0c3 ?y0c4 ?y0c5; (case y0kA => exact rfl); (case y0kF => exact rfl); (case y0kK => assumption); (case y0k1 => k_asm); (case y0k2 => k_asm); (case y0k3 => k_asm); (case y0k4 => k_asm); (case y0kO => assumption); (case y0k5 => k_asm); (case y0k6 => k_is); (case y0k7 => k_is); (case y0k8 => ktr_room); (case y0k9 => first | exact BindsTo.of_eq rfl | exact binds_K (by k_in) rfl (by k_is) rfl rfl rfl); (case y0c5 => decide); (case y0kB => exact locs rfl); (case y0kR => assumption); (case y0c2 => exact rfl); (case y0c3 => exact rfl); (case y0c4 => exact rfl); k_whole; intro g1 L1 h1 FG1 F1 N1 B1 X1 T1 G1; (try k_lift B1); (first | ((refine name_env2 ?_); intro tkE aA eE qk xE) | ((try dsimp only); (try k_fold); (try ((refine name_env ?_); intro aA eE xE)))))
  have hlg : g1.IsList l vs.toArray := hy.at fun o e => G1 _ _ e (by simp)
  k_with "pyIter ref" => guard_hyp tg9 : Mine.Tg 73070; refine Halt.out ?_
  k_steps
  rename_i dr _ _ _ _ _ _ D5 ws5 _ F5 N5 l5 hI5 hC5 hL5
  unfold Halt
  refine' for_listL (l := D5) (vs := ws5) (nn := 0) (fun c : List Value × List Int × Nat => [(D5, listOf ws5.toArray 0), (dr, listOf c.1.toArray c.2.2)]) (fun _ => []) [Str.ofString "left", Str.ofString "hop"] (fun i c => IntsAre c.1 c.2.1 ∧ c.2.1.length ≤ 10 * i) ([], [], 0) (by rfl) (fun _ => .head _) F5 N5 ?hk1 ⟨.nil, Nat.le_refl _⟩ ?turn1 ?done1
  case hk1 => exact List.forall_mem_nil _
  case turn1 =>
    intro c i v u h4 tk4 own hi4 hv4 hoff4 ha4 hP F4 N4
    obtain ⟨k4, t4, ek4, rfl⟩ : ∃ k t, (ns.take 40)[i]? = some k ∧ v = .int k t := by
      (first | (refine hideW ?_; intro gG9; obtain ⟨k, t, e, hk⟩ := IntsAre.at hI5 i v hv4; refine (?_ : wpAny _ _ _ _ _ _); clear gG9) | obtain ⟨k, t, e, hk⟩ := IntsAre.at hI5 i v hv4)
      exact ⟨k, t, hk, e⟩
    dsimp only [List.map_cons, List.map_nil, List.cons_append, List.nil_append] at hoff4 N4
    refine cut_fr F4 1 (fun c2 : Int × Nat => [(Str.ofString "left", .int c2.1 c2.2)]) (fun _ => (D5, listOf ws5.toArray 0) :: (dr, listOf c.1.toArray c.2.2) :: own) (fun _ => True) ?_ ?_
    · refine (?_ : wpAny _ _ (execs (_ :: _) _) _ _ _)
      k_steps
      all_goals (refine' AtM.intro (by assumption) (by assumption) (_, _) (fun _ h => h) ?_ (by (intro z; (first | intro h1 h2 h3 | intro h2 h3); (repeat (first | with_reducible rfl | exact relS h3 | refine relI (by first | with_reducible assumption | exact relN h3 (by with_unfolding_all rfl) | exact relP h2 (by with_unfolding_all rfl)) ?_ | refine relK (by first | with_reducible assumption | exact List.forall_mem_nil _ | exact relM h2 rfl) ?_ | exact rfl)); done)) trivial; all_goals tb_start)
    · intro c2 h6 tk6 F6 N6 _
      refine (?_ : wpAny _ _ (execs (_ :: _) _) _ _ _)
      clear F4 N4
      k_steps
      rename_i hr8 F8 N8 _
      unfold Halt
      refine' for_range (n := 10) (fun c8 : List Value × List Int × Nat × Int × Nat => (D5, listOf ws5.toArray 0) :: (dr, listOf c8.1.toArray c8.2.2.1) :: own) (fun c8 => [(Str.ofString "left", .int c8.2.2.2.1 c8.2.2.2.2)]) [] (fun j c8 => IntsAre c8.1 c8.2.1 ∧ c8.2.1.length ≤ 10 * i + j) (c.1, c.2.1, c.2.2, c2.1, _) (by rfl) hr8 (by decide) (by decide) F8 N8 ?hk2 ⟨hP.1, hP.2⟩ ?turn2 ?done2
      case hk2 => tb_start
      case turn2 =>
        intro c8 j t8 u8 h8 tk8 own8 hj hoff8 ha8 hP8 F9 N9
        dsimp only [List.map_cons, List.map_nil, List.cons_append, List.nil_append] at hoff8 N9
        have hi8 := hP8.1
        have hl8 : c8.2.1.length ≤ 500 := by have := hP8.2; have := hI5.length; (exact om181 hC5 hi4 hj hP8 this)
        k_steps
        · refine turn_brk ?_
          k_steps
          rename (News _ _ _ _) => N10
          simp +zetaDelta only [List.push_toArray] at N10
          refine' turn_next (c8.1 ++ [.int (Int.fmod c8.2.2.2.1 199) (tk8 + 1)], c8.2.1 ++ [Int.fmod c8.2.2.2.1 199], c8.2.2.1 + 1) (by assumption) N10 (by kqd_sub) (fun p hp => .tail _ (.tail _ (List.mem_append_left _ hp))) rfl (List.forall_mem_nil _) (by (intro z; (first | intro h1 h2 h3 | intro h2 h3); (repeat (first | with_reducible rfl | exact relS h3 | refine relI (by first | with_reducible assumption | exact relN h3 (by with_unfolding_all rfl) | exact relP h2 (by with_unfolding_all rfl)) ?_ | refine relK (by first | with_reducible assumption | exact List.forall_mem_nil _ | exact relM h2 rfl) ?_ | exact rfl)); done)) ⟨IntsAre.append hi8 (.cons _ (tk8 + 1) .nil), ?hl9⟩
          case hl9 =>
            show (c8.2.1 ++ [_]).length ≤ _
            have := hP8.2
            rw [List.length_append, List.length_singleton]
            (exact om182 (by k_asm) (by k_asm))
        · rename (News _ _ _ _) => N10
          simp +zetaDelta only [List.push_toArray] at N10
          refine' turn_next (c8.1 ++ [.int (Int.fmod c8.2.2.2.1 199) (tk8 + 1)], c8.2.1 ++ [Int.fmod c8.2.2.2.1 199], c8.2.2.1 + 1, Int.fdiv c8.2.2.2.1 199, _) (by assumption) N10 (fun p hp => ?hs9) (fun p hp => .tail _ (.tail _ (List.mem_append_right _ hp))) rfl ?hk9 (by (intro z; (first | intro h1 h2 h3 | intro h2 h3); (refine Eq.symm ?_); (repeat (first | with_reducible rfl | refine relI (by first | with_reducible assumption | exact relN h3 (by with_unfolding_all rfl) | exact relP h2 (by with_unfolding_all rfl)) ?_ | refine relK (by first | with_reducible assumption | exact List.forall_mem_nil _ | exact relM h2 rfl) ?_ | exact rfl)); (refine Eq.symm ?_); (repeat (first | with_reducible rfl | exact relS h3 | refine relI (by first | with_reducible assumption | exact relN h3 (by with_unfolding_all rfl) | exact relP h2 (by with_unfolding_all rfl)) ?_ | refine relK (by first | with_reducible assumption | exact List.forall_mem_nil _ | exact relM h2 rfl) ?_ | exact rfl)); done)) ⟨IntsAre.append hi8 (.cons _ (tk8 + 1) .nil), ?hl8⟩
          case hk9 => tb_start
          case hs9 =>
            rcases List.mem_cons.mp hp with rfl | hp
            · exact .head _
            · rcases List.mem_cons.mp hp with rfl | hp
              · exact .tail _ (.head _)
              · exact .tail _ (.tail _ (List.mem_append_left _ hp))
          case hl8 =>
            show (c8.2.1 ++ [_]).length ≤ _
            have := hP8.2
            rw [List.length_append, List.length_singleton]
            (exact om183 (by k_asm))
      case done2 =>
        intro c8 u8 h8 tk8 hP8 F9 N9
        k_steps
        refine' turn_next (c8.1, c8.2.1, c8.2.2.1) (by assumption) (by assumption) (by kqd_sub) (fun p hp => .tail _ (.tail _ hp)) rfl (List.forall_mem_nil _) (by (intro z; (first | intro h1 h2 h3 | intro h2 h3); (repeat (first | with_reducible rfl | exact relS h3 | refine relI (by first | with_reducible assumption | exact relN h3 (by with_unfolding_all rfl) | exact relP h2 (by with_unfolding_all rfl)) ?_ | refine relK (by first | with_reducible assumption | exact List.forall_mem_nil _ | exact relM h2 rfl) ?_ | exact rfl)); done)) ⟨hP8.1, by have := hP8.2; dsimp only; (exact om184 (by k_asm))⟩
  case done1 =>
    intro c u h4 tk4 hP F4 N4
    have hle : ws5.length ≤ 40 := by rw [hI5.length, hC5]; (exact om185)
    have hcl : c.2.1.length ≤ 400 := by have := hP.2; (exact om186 (by k_asm) (by k_asm))
    have hci := hP.1
    k_steps
    rename_i D7 ws7 _ _ _ _ hI7 hC7 _
    exact Out.intro (by assumption) (by assumption) [(D7, listOf ws7.toArray 0)] (by kqd_sub) ⟨_, _, _, _, rfl, rfl, hI7, by rw [hC7]; (exact om187)⟩

end

section
-- part Numbers
theorem b_bad {b : Int} (h : ([1, 37].any fun x => x == b) = true) : b = 1 ∨ b = 37 := by
  simp only [List.any_cons, List.any_nil, Bool.or_false, Bool.or_eq_true, beq_iff_eq] at h
  (exact om41 (by k_asm))
theorem b_good {b : Int} (hb : b = 1 ∨ b = 37 ∨ b = 0 ∨ (2 ≤ b ∧ b ≤ 36)) (h : ([1, 37].any fun x => x == b) = false) : b = 0 ∨ (2 ≤ b ∧ b ≤ 36) := by
  simp only [List.any_cons, List.any_nil, Bool.or_false, Bool.or_eq_false_iff, beq_eq_false_iff_ne, ne_eq] at h
  (exact om42 (by k_asm) (by k_asm))
theorem sz9 {a n : Nat} {l : List Nat} (ha : a ≤ 3) (hb : l.length = ((n : Int) - 0).toNat) (hn : n < 9) : a + (⟨l.toArray⟩ : Str).length ≤ sizeLine := by
  have e : (⟨l.toArray⟩ : Str).length = l.length := List.size_toArray
  rw [e, sizeLine_eq]; omega
set_option maxRecDepth 100000 in
set_option maxHeartbeats 4000000 in
theorem numbers_ok (w : World) (d : Addr) (o : Obj) (hD : DrumO o) : CallsT w 714 [.ref d] 90 4800 [(d, o)] (fun _ => True) (fun v post => v = .bool true ∧ ∃ o', DrumO o' ∧ post = [(d, o')]) := by
  unfold CallsT
  have tg9 : Mine.Tg 15502 := tgI 15502
  k_fill
  intro p loose mean mg mb dp un gd cn cs a ccd cl outer A₀ base h₀ L m rest s Q E B F X N hoff T XB TB DK hk hd hu hy hret
  refine wpAny_call ?_
  k_dflt (refine' code_defTC B F X N hoff T XB TB DK ?kA ?kF ?kK ?k6 ?k7 ?k8 ?k9 ?kB ?kD hret ?_ ?c2 ?c3 ?c4; (case kA => exact rfl); (case kF => exact rfl); (case kK => assumption); (case k6 => k_is); (case k7 => k_is); (case k8 => ktr_room); (case k9 => first | exact BindsTo.of_eq rfl | exact binds_K (by k_in) rfl (by k_is) rfl rfl rfl); (case kB => exact rfl); (case kD => decide +kernel); (case c2 => exact rfl); (case c3 => exact rfl); (case c4 => exact rfl); k_whole; intro g1 L1 h1 tk1 cells1 FG1 F1 N1 Y1 B1 X1 T1 l1 G1 D1; (try k_lt l1); k_cells Y1; (try dsimp only [List.cons_append, List.nil_append] at N1); (try dsimp only); (try k_lift B1); (try k_fold))
  refine name_env ?_
  intro aA eE xE
  have f2 : @LT.lt Nat _ d L1 := l1 _ (.head _)
  have hB : Dist [L1 + 1 + 1, L1 + 1, d] := dist_top (List.forall_mem_cons.mpr ⟨Nat.lt_succ_self _, List.forall_mem_cons.mpr ⟨lt_up (lt_up f2), List.forall_mem_nil _⟩⟩) (dist_top (List.forall_mem_cons.mpr ⟨lt_up f2, List.forall_mem_nil _⟩) ⟨List.forall_mem_nil _, trivial⟩)
  have e1 : @Ne Nat d (L1 + 1) := lt_ne (lt_up (l1 _ (.head _)))
  have e2 : @Ne Nat d (L1 + 1 + 1) := lt_ne (lt_up (lt_up (l1 _ (.head _))))
  k_with "call ref" => guard_hyp tg9 : Mine.Tg 15502; ((with_reducible show wpAny _ _ (call (Value.ref 681) _) _ _ _); (k_dflt (refine useB (d := d) (by assumption) (by decide) (by decide) (by k_asm) (by k_asm) (by k_asm) (by k_asm) (by k_asm) (by first | exact rfl | assumption) (by ktr_room) (by ktr_units) (by k_extra "pkA") (by k_extra "off") ?_)); intro j9 t9 o9 h9 tk9 F9 N9 hj9 hD9)
  rename_i oB0 oDr d1 dDr
  with_reducible refine cut1 7 g1 L1 s (fun (o7 : Obj) => []) (fun o7 => [(d, o7), (L1 + 1, oDr)]) (fun o7 => DrumO o7) ?_ ?_
  · refine (?_ : wpAny _ _ (execs (_ :: _) _) _ _ _)
    k_with "subscriptTail List cons" => guard_hyp tg9 : Mine.Tg 15502; refine Halt.out ?_
    k_steps
    unfold Halt
    refine menu_at BaseV (by k_asm) (by k_mem) (by exact hj9) (by show 10 < 1000000; decide) (by ((repeat (first | exact List.forall_mem_nil _ | (refine List.forall_mem_cons.mpr ⟨?_, ?_⟩; (focus (first | exact ⟨_, _, rfl, by decide⟩ | exact ⟨_, _, rfl, by decide, by decide⟩ | exact ⟨_, _, rfl, by omega⟩))))))) ?_
    rintro _ ⟨b, tb, rfl, hb⟩
    k_with "pyIter ref" => guard_hyp tg9 : Mine.Tg 15502; refine Halt.out ?_
    k_steps
    rename_i lb _ lA _ j0 t0 od0 _ _ hj0 hD0 _ oB dB _ _ lw _ lB _ _ _ _ _ _ _ _ _ _ _ _ _ _ _ _ _ hr F8 N8 _
    unfold Halt
    have hj6 : j9 < 6 := hj9
    refine' for_range (n := j9) (fun c : WS => [(d, c.o), (lw, listOf c.vs.toArray c.n), (L1 + 1 + 1, oB), (L1 + 1, oDr)]) (fun _ => []) [Str.ofString "head", Str.ofString "tail"] (WSOk 40) ⟨o9, [], 0, []⟩ (by rfl) hr (small_one (by (exact om2)) (by (exact om3)) (by (exact om4)) (by (exact om43 (by k_asm)))) (rangeSize_nat _ _) F8 (news_sub N8 (by kqd_sub)) (List.forall_mem_nil _) ⟨hD9, OSAre.nil, rfl, fun _ h => nomatch h⟩ ?turn1 ?done1
    case turn1 =>
      intro c j t8 u8 h8 tk8 own8 hj hoff8 ha8 hP8 F9 N9
      (first | (refine hideW ?_; intro gG9; obtain ⟨hDc, hvc, hlc, hxc⟩ := hP8; refine (?_ : wpAny _ _ _ _ _ _); clear gG9) | obtain ⟨hDc, hvc, hlc, hxc⟩ := hP8)
      dsimp only [List.map_cons, List.map_nil, List.cons_append, List.nil_append] at hoff8 N9
      have hvl : c.vs.length ≤ 6 := by rw [hvc.1, hlc]; (exact om44 (by k_asm) (by k_asm))
      have hn8 : NeAll d own8 := ne_all fun q hq => (hoff8 q hq d (.head _)).symm
      k_steps
      unfold Halt
      refine menu_at (TextV 3) (by k_asm) (by k_mem) (by exact hj9) (by show 6 < 1000000; decide) (by ((repeat (first | exact List.forall_mem_nil _ | (refine List.forall_mem_cons.mpr ⟨?_, ?_⟩; (focus (first | exact ⟨_, _, rfl, by decide⟩ | exact ⟨_, _, rfl, by decide, by decide⟩ | exact ⟨_, _, rfl, by omega⟩))))))) ?_
      rintro _ ⟨xh, th, rfl, hlh, hsh⟩
      k_with "eval ListComp Subscript cons" => guard_hyp tg9 : Mine.Tg 15502; refine Halt.out ?_
      k_steps
      unfold Halt
      ((k_dflt (refine LCg.ListComp_U (F₀ := by k_asm) (by with_unfolding_all rfl) (by decide) (by rfl) (by decide) (by rfl) ?_)))
      k_with "CompSrc" => guard_hyp tg9 : Mine.Tg 15502; refine Halt.out ?_
      k_steps
      rename_i hr7 F7 N7 _
      unfold Halt
      have hj7 : j9 < 9 := hj9
      refine LCg.CompSrc.range (news := (d, o9) :: (lw, listOf c.vs.toArray c.n) :: (L1 + 1 + 1, oB) :: (L1 + 1, oDr) :: own8) (by rfl) F7 (news_sub N7 (by kqd_sub)) hr7 (small_one (by (exact om2)) (by (exact om3)) (by (exact om4)) (by (exact om45 (by k_asm)))) (rangeSize_nat _ _) (by rw [sizeLine_eq]; (exact om46 (by k_asm))) ?_
      intro g2
      refine comp_inv (σ := Obj) (fun o => (d, o) :: (lw, listOf c.vs.toArray c.n) :: (L1 + 1 + 1, oB) :: (L1 + 1, oDr) :: own8) SignsOk o9 ⟨hD9, [], OSAre.nil, rfl, fun _ h => nomatch h⟩ ?turn2 ?fin2
      case turn2 =>
        intro o2 i v ys I oI C oC D m₂ h11 tk11 E' hi hv hP hC hx2 F10 N10 off10 ne10
        have hDo := hP.1
        (first | (refine hideW ?_; intro gG9; obtain ⟨q1, q2, q3⟩ := off10.1; refine (?_ : wpAny _ _ _ _ _ _); clear gG9) | obtain ⟨q1, q2, q3⟩ := off10.1)
        try dsimp only at q1 q2 q3
        k_with "CompEnd" => guard_hyp tg9 : Mine.Tg 15502; refine Halt.out ?_
        k_steps
        unfold Halt
        refine menu_at SignV (by k_asm) (by k_mem) (by exact hj9) (by show 9 < 1000000; decide) (by ((repeat (first | exact List.forall_mem_nil _ | (refine List.forall_mem_cons.mpr ⟨?_, ?_⟩; (focus (first | exact ⟨_, _, rfl, by decide⟩ | exact ⟨_, _, rfl, by decide, by decide⟩ | exact ⟨_, _, rfl, by omega⟩))))))) ?_
        intro v3 hv3
        k_steps
        unfold Halt
        exact LCg.CompEnd.intro (by assumption) (by assumption) ((d, o9) :: (lw, listOf c.vs.toArray c.n) :: (L1 + 1 + 1, oB) :: (L1 + 1, oDr) :: own8) (by kqd_sub) (off3_addr rfl off10) trivial ⟨o9, rfl, hP.snoc hD9 hv3⟩
      case fin2 =>
        intro ys o3 hP
        unfold LCg.FinE
        intro D3 h3 tk3 F10 N10 o10
        (first | (refine hideW ?_; intro gG9; obtain ⟨hD3, sg3, hs1, hs2, hs3⟩ := hP; refine (?_ : wpAny _ _ _ _ _ _); clear gG9) | obtain ⟨hD3, sg3, hs1, hs2, hs3⟩ := hP)
        have q4 := o10.1
        have q5 := o10.2.1
        have q6 := o10.2.2.1
        have q7 := o10.2.2.2.1
        try dsimp only at q4 q5 q6 q7
        have q8 : NeAll lw own8 := ne_all fun q hq => (hoff8 q hq lw (.tail _ (.head _))).symm
        have q9 : @LT.lt Nat _ d lw := lt_in lB (by k_mem)
        k_with "call builtin:list.append cons nil" => guard_hyp tg9 : Mine.Tg 15502; ((((k_dflt (refine app_at (by k_asm) (by k_asm) (by k_extra "pkA") (by k_extra "off") (by first | exact Nat.le_trans (by with_reducible assumption) (Nat.le_of_ble_eq_true rfl) | omega) ?_)); intro hA FA NA)))
        have hz9 : xh.length + (⟨sg3.toArray⟩ : Str).length ≤ sizeLine := sz9 (by k_asm) (by k_asm) (by k_asm)
        k_with "call builtin:str.join cons nil" => guard_hyp tg9 : Mine.Tg 15502; (refine join_at (by k_asm) (by k_mem) hs1 (by (exact om47 (by k_asm) (by k_asm))) ?_; intro t7 k7)
        k_steps
        · refine' turn_next ⟨o9, c.vs ++ [.none], c.n + 1, c.os ++ [none]⟩ (by assumption) NA (by kqd_sub) (fun p hp => .tail _ (.tail _ (.tail _ (.tail _ (.tail _ hp))))) rfl (List.forall_mem_nil _) (by (intro z; (first | intro h1 h2 h3 | intro h2 h3); (repeat (first | with_reducible rfl | exact relS h3 | refine relI (by first | with_reducible assumption | exact relN h3 (by with_unfolding_all rfl) | exact relP h2 (by with_unfolding_all rfl)) ?_ | refine relK (by first | with_reducible assumption | exact List.forall_mem_nil _ | exact relM h2 rfl) ?_ | exact rfl)); done)) ⟨hD9, OSAre.snoc hvc rfl, by simp [hlc], ?hx1⟩
          case hx1 =>
            intro x hx
            rcases List.mem_append.mp hx with hx | hx
            · exact hxc x hx
            · cases List.mem_singleton.mp hx
        · obtain ⟨vw, ⟨tw, hvw⟩, NB⟩ : ∃ vw, (∃ t, vw = Value.str (xh ++ ⟨sg3.toArray⟩) t) ∧ News g1 L1 _ ((lw, listOf (c.vs ++ [vw]).toArray (c.n + 1)) :: (d, o9) :: (D3, LCg.lst ys) :: (L1 + 1 + 1, oB) :: (L1 + 1, oDr) :: own8) := ⟨_, ⟨_, rfl⟩, NA⟩
          refine' turn_next ⟨o9, c.vs ++ [vw], c.n + 1, c.os ++ [some (xh ++ ⟨sg3.toArray⟩)]⟩ (by assumption) NB (by kqd_sub) (fun p hp => .tail _ (.tail _ (.tail _ (.tail _ (.tail _ hp))))) rfl (List.forall_mem_nil _) (by (intro z; (first | intro h1 h2 h3 | intro h2 h3); (repeat (first | with_reducible rfl | exact relS h3 | refine relI (by first | with_reducible assumption | exact relN h3 (by with_unfolding_all rfl) | exact relP h2 (by with_unfolding_all rfl)) ?_ | refine relK (by first | with_reducible assumption | exact List.forall_mem_nil _ | exact relM h2 rfl) ?_ | exact rfl)); done)) ⟨hD9, OSAre.snoc hvc ⟨tw, hvw⟩, by simp [hlc], ?hx2⟩
          case hx2 =>
            intro x hx
            rcases List.mem_append.mp hx with hx | hx
            · exact hxc x hx
            · have e := Option.some.inj (List.mem_singleton.mp hx)
              subst e
              exact text_app hlh hsh hs2 hs3 (by (exact om48 (by k_asm)))
    case done1 =>
      intro c u8 h8 tk8 hP8 F9 N9
      (first | (refine hideW ?_; intro gG9; obtain ⟨hDc, hvc, hlc, hxc⟩ := hP8; refine (?_ : wpAny _ _ _ _ _ _); clear gG9) | obtain ⟨hDc, hvc, hlc, hxc⟩ := hP8)
      have q9 : @LT.lt Nat _ d lw := lt_in lB (by k_mem)
      have hvl : c.vs.length ≤ 6 := by rw [hvc.1, hlc]; (exact om49 (by k_asm))
      k_with "call ref" => guard_hyp tg9 : Mine.Tg 15502; ((((with_reducible show wpAny _ _ (call (Value.ref 237) _) _ _ _); (k_dflt (refine useV (by k_asm) (by k_asm) (by k_asm) (by k_asm) (by k_asm) (by first | exact rfl | assumption) (by ktr_room) (by ktr_units) ?_)); intro _ _ _ _ _ _ _ _ _ _ _ _ _)))
      k_with "call ref" => guard_hyp tg9 : Mine.Tg 15502; ((with_reducible show wpAny _ _ (call (Value.ref 688) _) _ _ _); refine Halt.out ?_)
      k_steps
      · unfold Halt
        rename_i Vx dX _ _ _ _ _ _ _ _ _ U1 _ _ _ _ _ Ib _ _ Vb dB _ _ _ _ _ _ _ _ _ U2 _ _ A _ _ _ _ _ _ _ _ _ Dt _ _ _ _ hin _ _ _ _ _ _
        have ho : Chain [lw, dX, Vx, U1, Ib, dB, Vb, U2, A] := by ((simp only [Chain, and_true]; (repeat' refine And.intro ?_ ?_); all_goals (k_extra "lt")))
        have hS : Dist [Dt, A, U2, Vb, dB, Ib, U1, Vx, dX, lw, L1 + 1 + 1, L1 + 1, d] := Desc.app_low (hi := [Dt, A, U2, Vb, dB, Ib, U1, Vx, dX]) (D := lw) (desc_of (show Chain [lw, dX, Vx, U1, Ib, dB, Vb, U2, A, Dt] by ((simp only [Chain, and_true]; (repeat' refine And.intro ?_ ?_); all_goals (k_extra "lt"))))) (List.forall_mem_cons.mpr ⟨lt_in lB (by k_mem), List.forall_mem_cons.mpr ⟨lt_in lB (by k_mem), List.forall_mem_cons.mpr ⟨lt_in lB (by k_mem), List.forall_mem_nil _⟩⟩⟩) hB
        have hb1 : b = 1 ∨ b = 37 := by
          exact b_bad hin
        (((k_dflt (refine useT (kbstrX w A U1 U2 Vx dX lw Vb dB Ib _ _ _ _ _ _ _ _ _ _ _ _ _ _ _ _ _ _ b c.vs hb1 ho) (by k_asm) (by k_asm) (by k_asm) (by k_asm) (by k_asm) (by assumption) (by assumption) (by assumption) (by first | exact rfl | assumption) (by ktr_room) (by ktr_units) (by first | exact True.intro | assumption | exact PySem.W.CodeHd.keeps (by assumption) (Fr.keep (by assumption))) (by k_extra "pkA") (by k_extra "off") ?_)); intro v9 p9 h9 tk9 g9 T9 F9 N9 O9 P9 B9 X9 Tp9 D9))
        obtain ⟨⟨t8, rfl⟩, rfl⟩ := P9
        dsimp only [List.nil_append] at N9
        k_steps
        exact OutT.intro T9 (by assumption) (by assumption) [(d, c.o)] (by kqd_sub) ⟨rfl, c.o, hDc, rfl⟩
      · unfold Halt
        rename_i Vx dX _ _ _ _ _ _ _ _ _ U1 _ _ _ _ _ Ib _ _ Vb dB _ _ _ _ _ _ _ _ _ U2 _ _ A _ _ _ _ _ _ _ _ _ Dt _ _ _ _ hin _ _ _
        have ho : Chain [lw, dX, Vx, U1, Ib, dB, Vb, U2, A] := by ((simp only [Chain, and_true]; (repeat' refine And.intro ?_ ?_); all_goals (k_extra "lt")))
        have hS : Dist [Dt, A, U2, Vb, dB, Ib, U1, Vx, dX, lw, L1 + 1 + 1, L1 + 1, d] := Desc.app_low (hi := [Dt, A, U2, Vb, dB, Ib, U1, Vx, dX]) (D := lw) (desc_of (show Chain [lw, dX, Vx, U1, Ib, dB, Vb, U2, A, Dt] by ((simp only [Chain, and_true]; (repeat' refine And.intro ?_ ?_); all_goals (k_extra "lt"))))) (List.forall_mem_cons.mpr ⟨lt_in lB (by k_mem), List.forall_mem_cons.mpr ⟨lt_in lB (by k_mem), List.forall_mem_cons.mpr ⟨lt_in lB (by k_mem), List.forall_mem_nil _⟩⟩⟩) hB
        have hb2 : b = 0 ∨ (2 ≤ b ∧ b ≤ 36) := by
          exact b_good (by assumption) hin
        (((k_dflt (refine useP (kbstr2 w A U1 U2 Vx dX lw Vb dB Ib _ _ _ _ _ _ _ _ _ _ _ _ _ _ _ _ _ _ b c.vs c.os hvc (by (exact om50 (by k_asm) (by k_asm))) hxc hb2 ho) (by k_asm) (by k_asm) (by k_asm) (by k_asm) (by k_asm) (by first | exact rfl | assumption) (by ktr_room) (by ktr_units) (by first | exact True.intro | assumption | exact PySem.W.CodeHd.keeps (by assumption) (Fr.keep (by assumption))) (by k_extra "pkA") (by k_extra "off") ?_)); intro v9 p9 h9 tk9 F9 N9 O9 P9))
        (first | (refine hideW ?_; intro gG9; obtain ⟨J, jn, ys, tl9, zq1, zq2, ⟨zq3, hys⟩, hl9⟩ := P9; refine (?_ : wpAny _ _ _ _ _ _); clear gG9; (first | subst zq1 | cases zq1); (first | subst zq2 | cases zq2); (first | subst zq3 | cases zq3)) | obtain ⟨J, jn, ys, tl9, rfl, rfl, ⟨rfl, hys⟩, hl9⟩ := P9)
        have hJ := lt_in hl9 memA0
        clear hl9
        dsimp only [List.cons_append, List.nil_append] at N9
        have qJ := off_all O9
        simp +zetaDelta only [OffAll, NeAll, and_true] at qJ
        k_with "eval ListComp Call cons" => guard_hyp tg9 : Mine.Tg 15502; refine Halt.out ?_
        k_steps
        unfold Halt
        ((k_dflt (refine LCg.ListComp_U (F₀ := by k_asm) (by with_unfolding_all rfl) (by decide) (by rfl) (by decide) (by rfl) ?_)))
        k_with "CompSrc" => guard_hyp tg9 : Mine.Tg 15502; refine Halt.out ?_
        k_steps
        unfold Halt
        refine LCg.CompSrc.ledger (by rfl) (by k_asm) (by k_asm) (by k_mem) (by rw [sizeLine_eq, List.size_toArray]; (exact Nat.le_trans (by with_reducible assumption) (Nat.le_of_ble_eq_true rfl))) ?_
        intro ga
        refine comp_const (fun i zs => OIAre zs ((c.os.map fun o => o.bind fun x => strtoiF x b).take i)) OIAre.nil ?turna ?fina
        case turna =>
          intro i v zs I oI C oC2 D m₂ h11 tk11 E' hi hv' hP hC hx2 F10 N10 off10 ne10
          have hv2 : c.vs[i]? = some v := by simpa using hv'
          (first | (refine hideW ?_; intro gG9; obtain ⟨o2, hoi, hov⟩ := hvc.2 i v hv2; refine (?_ : wpAny _ _ _ _ _ _); clear gG9) | obtain ⟨o2, hoi, hov⟩ := hvc.2 i v hv2)
          have hmo : o2 ∈ c.os := List.mem_of_getElem? hoi
          k_with "call ref" => guard_hyp tg9 : Mine.Tg 15502; ((with_reducible show wpAny _ _ (call (Value.ref 702) _) _ _ _); refine Halt.out ?_)
          k_steps
          unfold Halt
          (((k_dflt (refine use0 (read_any w o2 v b _ hov (fun x hx' => hxc x (hx' ▸ hmo)) (base_in hb2)) (by k_asm) (by k_asm) (by k_asm) (by k_asm) (by k_asm) (by first | exact rfl | assumption) (by ktr_room) (by ktr_units) (by first | exact True.intro | assumption) ?_)); intro v9 p9 h9 tk9 F9 N9 O9 P9))
          obtain ⟨ev, e9⟩ := P9
          subst e9
          (try dsimp only [List.nil_append] at N9)
          k_with "CompEnd" => guard_hyp tg9 : Mine.Tg 15502; refine Halt.out ?_
          k_steps
          unfold Halt
          refine LCg.CompEnd.intro (by assumption) N9 _ (fun _ h => h) off10 (Or.inr ⟨_, .tail _ (.head _), rfl, _, rfl⟩) ⟨rfl, ?_⟩
          have e5 : (c.os.map fun o => o.bind fun x => strtoiF x b)[i]? = some (o2.bind fun x => strtoiF x b) := by simp [hoi]
          rw [List.take_add_one, e5]
          exact hP.snoc ev
        case fina =>
          intro zsa hza
          rw [List.take_of_length_le (by rw [List.length_map, List.size_toArray, hvc.1]; exact Nat.le_refl _)] at hza
          unfold LCg.FinE
          intro Da ha tka Fa Na oa
          simp only [LCg.Off1, and_true] at oa
          k_with "compareOp NotEq ref ref" => guard_hyp tg9 : Mine.Tg 15502; refine Halt.out ?_
          k_steps
          unfold Halt
          refine neI (by k_asm) (by k_mem) (by k_mem) hys hza (by ke_room) ?_
          rename (News _ _ _ _) => Nz
          replace Nz := news_sub (l := [(d, c.o), (lw, listOf c.vs.toArray c.n), (L1 + 1 + 1, oB), (L1 + 1, oDr)]) Nz (by kqd_sub)
          k_with "call ref" => guard_hyp tg9 : Mine.Tg 15502; ((((with_reducible show wpAny _ _ (call (Value.ref 237) _) _ _ _); (k_dflt (refine useV (by k_asm) (by k_asm) (by k_asm) (by k_asm) (by k_asm) (by first | exact rfl | assumption) (by ktr_room) (by ktr_units) ?_)); intro _ _ _ _ _ _ _ _ _ _ _ _ _)))
          k_with "call ref" => guard_hyp tg9 : Mine.Tg 15502; ((with_reducible show wpAny _ _ (call (Value.ref 688) _) _ _ _); refine Halt.out ?_)
          k_steps
          unfold Halt
          rename_i Vy dY _ _ _ _ _ _ _ _ _ U3 _ _ A3 _ _ _ _
          have ho3 : Chain [lw, dY, Vy, U3, A3] := by ((simp only [Chain, and_true]; (repeat' refine And.intro ?_ ?_); all_goals (k_extra "lt")))
          replace hS : Dist [A3, U3, Vy, dY, lw, L1 + 1 + 1, L1 + 1, d] := Desc.app_low (hi := [A3, U3, Vy, dY]) (D := lw) (desc_of ho3) (List.forall_mem_cons.mpr ⟨lt_in lB (by k_mem), List.forall_mem_cons.mpr ⟨lt_in lB (by k_mem), List.forall_mem_cons.mpr ⟨lt_in lB (by k_mem), List.forall_mem_nil _⟩⟩⟩) hB
          (((k_dflt (refine useP (kbstr1 w A3 U3 Vy dY lw _ _ _ _ _ _ _ _ c.vs c.os hvc (by (exact om50 (by k_asm) (by k_asm))) hxc ho3) (by k_asm) (by k_asm) (by k_asm) (by k_asm) (by k_asm) (by first | exact rfl | assumption) (by ktr_room) (by ktr_units) (by first | exact True.intro | assumption | exact PySem.W.CodeHd.keeps (by assumption) (Fr.keep (by assumption))) (by k_extra "pkA") (by k_extra "off") ?_)); intro v9 p9 h9 tk9 F9 N9 O9 P9))
          (first | (refine hideW ?_; intro gG9; obtain ⟨J3, jn3, ys3, tl9, zq1, zq2, ⟨zq3, hys3⟩, hl9⟩ := P9; refine (?_ : wpAny _ _ _ _ _ _); clear gG9; (first | subst zq1 | cases zq1); (first | subst zq2 | cases zq2); (first | subst zq3 | cases zq3)) | obtain ⟨J3, jn3, ys3, tl9, rfl, rfl, ⟨rfl, hys3⟩, hl9⟩ := P9)
          have hJ3 := lt_in hl9 memA0
          clear hl9
          dsimp only [List.cons_append, List.nil_append] at N9
          have qJ3 := off_all O9
          simp +zetaDelta only [OffAll, NeAll, and_true] at qJ3
          k_with "eval ListComp Call cons" => guard_hyp tg9 : Mine.Tg 15502; refine Halt.out ?_
          k_steps
          unfold Halt
          ((k_dflt (refine LCg.ListComp_U (F₀ := by k_asm) (by with_unfolding_all rfl) (by decide) (by rfl) (by decide) (by rfl) ?_)))
          k_with "CompSrc" => guard_hyp tg9 : Mine.Tg 15502; refine Halt.out ?_
          k_steps
          unfold Halt
          refine LCg.CompSrc.ledger (by rfl) (by k_asm) (by k_asm) (by k_mem) (by rw [sizeLine_eq, List.size_toArray]; (exact Nat.le_trans (by with_reducible assumption) (Nat.le_of_ble_eq_true rfl))) ?_
          intro gb
          refine comp_const (fun i zs => OIAre zs ((c.os.map fun o => o.bind fun x => strtoiF x 10).take i)) OIAre.nil ?turnb ?finb
          case turnb =>
            intro i v zs I oI C oC2 D m₂ h11 tk11 E' hi hv' hP hC hx2 F10 N10 off10 ne10
            have hv2 : c.vs[i]? = some v := by simpa using hv'
            (first | (refine hideW ?_; intro gG9; obtain ⟨o2, hoi, hov⟩ := hvc.2 i v hv2; refine (?_ : wpAny _ _ _ _ _ _); clear gG9) | obtain ⟨o2, hoi, hov⟩ := hvc.2 i v hv2)
            have hmo : o2 ∈ c.os := List.mem_of_getElem? hoi
            k_with "call ref" => guard_hyp tg9 : Mine.Tg 15502; ((with_reducible show wpAny _ _ (call (Value.ref 702) _) _ _ _); refine Halt.out ?_)
            k_steps
            unfold Halt
            (((k_dflt (refine use0 (read_any w o2 v 10 _ hov (fun x hx' => hxc x (hx' ▸ hmo)) (by decide)) (by k_asm) (by k_asm) (by k_asm) (by k_asm) (by k_asm) (by first | exact rfl | assumption) (by ktr_room) (by ktr_units) (by first | exact True.intro | assumption) ?_)); intro v9 p9 h9 tk9 F9 N9 O9 P9))
            obtain ⟨ev, e9⟩ := P9
            subst e9
            (try dsimp only [List.nil_append] at N9)
            k_with "CompEnd" => guard_hyp tg9 : Mine.Tg 15502; refine Halt.out ?_
            k_steps
            unfold Halt
            refine LCg.CompEnd.intro (by assumption) N9 _ (fun _ h => h) off10 (Or.inr ⟨_, .tail _ (.head _), rfl, _, rfl⟩) ⟨rfl, ?_⟩
            have e5 : (c.os.map fun o => o.bind fun x => strtoiF x 10)[i]? = some (o2.bind fun x => strtoiF x 10) := by simp [hoi]
            rw [List.take_add_one, e5]
            exact hP.snoc ev
          case finb =>
            intro zsb hzb
            rw [List.take_of_length_le (by rw [List.length_map, List.size_toArray, hvc.1]; exact Nat.le_refl _)] at hzb
            unfold LCg.FinE
            intro Db hb tkb Fb Nb ob
            k_with "compareOp NotEq ref ref" => guard_hyp tg9 : Mine.Tg 15502; refine Halt.out ?_
            k_steps
            unfold Halt
            refine neI (by k_asm) (by k_mem) (by k_mem) hys3 hzb (by ke_room) ?_
            k_steps
            exact At.intro (by assumption) (by assumption) c.o (by kqd_sub) (List.forall_mem_nil _) hDc
  · intro o7 m7 h7 tk7 F7 N7 hD7
    refine (?_ : wpAny _ _ (execs (_ :: _) _) _ _ _)
    have F7 : Fr g1 L1 h7 m7 := F7
    k_with "call ref" => guard_hyp tg9 : Mine.Tg 15502; ((with_reducible show wpAny _ _ (call (Value.ref 709) _) _ _ _); refine Halt.out ?_)
    k_steps
    rename_i ja _ _ _ _ hja _ _ jb _ _ _ _ hjb _ _ _ _ _ _ _ _ _ _ _ _ _ _ _ _ _ _ _
    unfold Halt
    have hj1 : ja < 199 := hja
    have hj2 : jb < 199 := hjb
    have hj3 : j9 < 35 := hj9
    have hfb : -1000 ≤ ((ja : Int) * 10790000 + (jb : Int) - 99) ∧ ((ja : Int) * 10790000 + (jb : Int) - 99) ≤ 2147483647 := by (exact om51 (by k_asm) (by k_asm))
    have hob : 2 ≤ ((2 : Int) + (j9 : Int)) ∧ ((2 : Int) + (j9 : Int)) ≤ 36 := by (exact om52 (by k_asm))
    (((k_dflt (refine use0 (spelled_ok w ((ja : Int) * 10790000 + (jb : Int) - 99) _ ((2 : Int) + (j9 : Int)) _ hfb hob) (by k_asm) (by k_asm) (by k_asm) (by k_asm) (by k_asm) (by first | exact rfl | assumption) (by ktr_room) (by ktr_units) (by first | exact True.intro | assumption) ?_)); intro v9 p9 h9 tk9 F9 N9 O9 P9))
    (first | (refine hideW ?_; intro gG9; obtain ⟨⟨x, tx, zq1, hxl, hxa, hxs⟩, zq2⟩ := P9; refine (?_ : wpAny _ _ _ _ _ _); clear gG9; (first | subst zq1 | cases zq1); (first | subst zq2 | cases zq2)) | obtain ⟨⟨x, tx, rfl, hxl, hxa, hxs⟩, rfl⟩ := P9)
    replace hxs : ∀ _ : Unit, strtoiF x ((2 : Int) + (j9 : Int)) = some ((ja : Int) * 10790000 + (jb : Int) - 99) := fun _ => hxs
    dsimp only [List.nil_append] at N9
    k_with "call ref" => guard_hyp tg9 : Mine.Tg 15502; ((((with_reducible show wpAny _ _ (call (Value.ref 237) _) _ _ _); (k_dflt (refine useV (by k_asm) (by k_asm) (by k_asm) (by k_asm) (by k_asm) (by first | exact rfl | assumption) (by ktr_room) (by ktr_units) ?_)); intro _ _ _ _ _ _ _ _ _ _ _ _ _)))
    k_with "call ref" => guard_hyp tg9 : Mine.Tg 15502; ((with_reducible show wpAny _ _ (call (Value.ref 655) _) _ _ _); refine Halt.out ?_)
    k_steps
    rename_i Ix _ lIx Vx dX _ _ _ _ _ _ _ _ _ _ _ _ _ _ _ _ _ _ _ _ Tp _ _ Ib _ _ Vb dB _ _ _ _ _ _ _ _ _ U1 _ _ _ U2 _ _ A _ _ _ _
    unfold Halt
    have ho : Chain [Ix, dX, Vx, Tp, Ib, dB, Vb, U1, U2, A] := by ((simp only [Chain, and_true]; (repeat' refine And.intro ?_ ?_); all_goals (k_extra "lt")))
    have hS : Dist [A, U2, U1, Vb, dB, Ib, Tp, Vx, dX, Ix, L1 + 1, d] := Desc.app_low (hi := [A, U2, U1, Vb, dB, Ib, Tp, Vx, dX]) (D := Ix) (desc_of ho) (List.forall_mem_cons.mpr ⟨lt_in lIx (by k_mem), List.forall_mem_cons.mpr ⟨lt_in lIx (by k_mem), List.forall_mem_nil _⟩⟩) ⟨List.forall_mem_cons.mpr ⟨Ne.symm e1, List.forall_mem_nil _⟩, List.forall_mem_nil _, trivial⟩
    have hv1 : OSAre [Value.str x tx] [some x] := OSAre.snoc OSAre.nil ⟨tx, rfl⟩
    (((k_dflt (refine useP (bstrD w A U1 U2 Vx dX Ix Vb dB Ib Tp _ _ _ _ _ _ _ _ _ _ _ _ _ _ _ _ _ _ ((2 : Int) + (j9 : Int)) [Value.str x tx] [some x] hv1 (show 1 ≤ 6 by decide) (fun y hy => by cases List.mem_singleton.mp hy; exact ⟨hxl, hxa⟩) (.inr hob) ho) (by k_asm) (by k_asm) (by k_asm) (by k_asm) (by k_asm) (by first | exact rfl | assumption) (by ktr_room) (by ktr_units) (by first | exact True.intro | assumption | exact PySem.W.CodeHd.keeps (by assumption) (Fr.keep (by assumption))) (by k_extra "pkA") (by k_extra "off") ?_)); intro v9 p9 h9 tk9 F9 N9 O9 P9))
    (first | (refine hideW ?_; intro gG9; obtain ⟨R, dR, Ir, r1, r2, r3, r4, r5, rk, rn, ys, tl9, zq1, zq2, zq3, hys⟩ := P9; refine (?_ : wpAny _ _ _ _ _ _); clear gG9; (first | subst zq1 | cases zq1); (first | subst zq2 | cases zq2); (first | subst zq3 | cases zq3)) | obtain ⟨R, dR, Ir, r1, r2, r3, r4, r5, rk, rn, ys, tl9, rfl, rfl, rfl, hys⟩ := P9)
    dsimp only [List.cons_append, List.nil_append] at N9
    k_with "compareOp Eq ref ref" => guard_hyp tg9 : Mine.Tg 15502; refine Halt.out ?_
    k_steps
    unfold Halt
    rw [List.map_cons, List.map_nil, Option.bind_some, hxs ()] at hys
    refine eqI (by k_asm) (by k_mem) (by k_mem) hys (OIAre.nil.snoc ⟨_, rfl⟩) (by ke_room) ?_
    refine (Out.intro (by assumption) (by assumption) [(d, o9)] (by kqd_sub) ⟨rfl, o9, by with_reducible assumption, rfl⟩).turn

end

section
-- part Exch
theorem row_at {r : ORow} (hr : r ∈ OLDS) (t1 t2 t3 t4 t5 : Tok) : ∃ t, valueAt [(Str.ofString "abc", Value.str (Str.ofString "abc") t1), (Str.ofString "a-d", .str (Str.ofString "abcd") t2), (Str.ofString "xyz", .str (Str.ofString "xyz") t3), (Str.ofString "c-ea", .str (Str.ofString "cdea") t4), (Str.ofString "b", .str (Str.ofString "b") t5)] r.old = some (.str r.row t) := by
  simp only [OLDS, List.mem_cons, List.not_mem_nil, or_false] at hr
  rcases hr with rfl | rfl | rfl | rfl | rfl <;> exact ⟨_, rfl⟩
theorem row_item {prog : Program} {w : World} {A : Around} {E : Value → Shared → Prop} {s : Shared} {h₀ : Heap} {L d : Addr} {news : List (Addr × Obj)} {o : Obj} {value slice : PySem.Expr} {r : ORow} {kvs : List (Str × Value)} {tt t1 t2 t3 t4 t5 : Tok} {Q : Value → Shared → Prop} (N : News h₀ L s.heap news) (hp : (d, o) ∈ news) (hd : o.IsDictOf (PySem.strKind prog w) kvs) (hr : r ∈ OLDS)
    (hk : kvs = [(Str.ofString "abc", Value.str (Str.ofString "abc") t1), (Str.ofString "a-d", .str (Str.ofString "abcd") t2), (Str.ofString "xyz", .str (Str.ofString "xyz") t3), (Str.ofString "c-ea", .str (Str.ofString "cdea") t4), (Str.ofString "b", .str (Str.ofString "b") t5)])
    (h : ∀ t, Q (.str r.row t) { s with toks := s.toks + 1 }) (hs : subscripted slice false (.ref d) (.str r.old tt) = operate [.ref d, .str r.old tt] (getItem (.ref d) (.str r.old tt)) := by with_unfolding_all rfl) :
    wpAny (model prog w) A (subscriptTail value slice (.ref d) (.str r.old tt)) Q E s := by
  obtain ⟨t, ht⟩ := row_at hr t1 t2 t3 t4 t5
  rw [← hk] at ht
  exact kdt_tail (knd := PySem.strKind _ _) N hp hd (kdt_getItem (knd := PySem.strKind _ _) N hp hd (strKind_is _ _ _ _) ht (h t)) hs
noncomputable def NEWA : List ORow := [⟨Str.ofString "P-T", Str.ofString "PQRST", [80, 81, 82, 83, 84]⟩, ⟨Str.ofString "1-5", Str.ofString "12345", [49, 50, 51, 52, 53]⟩]
noncomputable def NEWB : List ORow := [⟨Str.ofString "PQRST", Str.ofString "PQRST", [80, 81, 82, 83, 84]⟩, ⟨Str.ofString "12345", Str.ofString "12345", [49, 50, 51, 52, 53]⟩]
theorem newA_at {q : ORow} (hq : q ∈ NEWA) (t1 t2 : Tok) (v : Value) : ∃ t, (valueAt [(Str.ofString "P-T", Value.str (Str.ofString "PQRST") t1), (Str.ofString "1-5", .str (Str.ofString "12345") t2)] q.old).getD v = .str q.row t := by
  simp only [NEWA, List.mem_cons, List.not_mem_nil, or_false] at hq
  rcases hq with rfl | rfl <;> exact ⟨_, rfl⟩
theorem newB_at {q : ORow} (hq : q ∈ NEWB) (t1 t2 t : Tok) : (valueAt [(Str.ofString "P-T", Value.str (Str.ofString "PQRST") t1), (Str.ofString "1-5", .str (Str.ofString "12345") t2)] q.old).getD (.str q.old t) = .str q.row t := by
  simp only [NEWB, List.mem_cons, List.not_mem_nil, or_false] at hq
  rcases hq with rfl | rfl <;> rfl
theorem newA_get {prog : Program} {w : World} {A : Around} {E : Value → Shared → Prop} {s : Shared} {h₀ : Heap} {L d : Addr} {news : List (Addr × Obj)} {o : Obj} {q : ORow} {kvs : List (Str × Value)} {tt t1 t2 : Tok} {dv : Value} {Q : Value → Shared → Prop} (N : News h₀ L s.heap news) (hp : (d, o) ∈ news) (hd : o.IsDictOf (PySem.strKind prog w) kvs) (lo : (d == sysModules) = false) (hq : q ∈ NEWA)
    (hk : kvs = [(Str.ofString "P-T", Value.str (Str.ofString "PQRST") t1), (Str.ofString "1-5", .str (Str.ofString "12345") t2)]) (h : ∀ t, Q (.str q.row t) { s with toks := s.toks + 1 }) : wpAny (model prog w) A (call (.builtin "dict.get") [.ref d, .str q.old tt, dv]) Q E s := by
  obtain ⟨t, ht⟩ := newA_at hq t1 t2 dv
  rw [← hk] at ht
  refine kdg_get2 (knd := PySem.strKind _ _) N hp hd lo (strKind_is _ _ _ _) (valueAt kvs q.old) rfl ?_
  rw [ht]; exact h t
theorem newB_get {prog : Program} {w : World} {A : Around} {E : Value → Shared → Prop} {s : Shared} {h₀ : Heap} {L d : Addr} {news : List (Addr × Obj)} {o : Obj} {q : ORow} {kvs : List (Str × Value)} {tt tu t1 t2 : Tok} {Q : Value → Shared → Prop} (N : News h₀ L s.heap news) (hp : (d, o) ∈ news) (hd : o.IsDictOf (PySem.strKind prog w) kvs) (lo : (d == sysModules) = false) (hq : q ∈ NEWB)
    (hk : kvs = [(Str.ofString "P-T", Value.str (Str.ofString "PQRST") t1), (Str.ofString "1-5", .str (Str.ofString "12345") t2)]) (h : Q (.str q.row tu) { s with toks := s.toks + 1 }) : wpAny (model prog w) A (call (.builtin "dict.get") [.ref d, .str q.old tt, .str q.old tu]) Q E s := by
  have ht := newB_at hq t1 t2 tu
  rw [← hk] at ht
  refine kdg_get2 (knd := PySem.strKind _ _) N hp hd lo (strKind_is _ _ _ _) (valueAt kvs q.old) rfl ?_
  rw [ht]; exact h
theorem newA_in {q : ORow} (hq : q ∈ NEWA) : q ∈ NEWS := by
  rcases List.mem_cons.mp hq with rfl | hq
  · exact .head _
  · cases List.mem_singleton.mp hq; exact .tail _ (.head _)
theorem newB_in {q : ORow} (hq : q ∈ NEWB) : q ∈ NEWS := .tail _ (.tail _ hq)
theorem signs_small : ∀ c ∈ SIGNS, c < 128 := by decide +kernel
theorem small_map {r q : ORow} (hr : r ∈ OLDS) (hq : q ∈ NEWS) {os : List (Option Str)} (hx : ∀ x, some x ∈ os → x.length ≤ 6 ∧ ∀ c ∈ x.cps.toList, c ∈ SIGNS) (x : Str) (h : some x ∈ os.map (Option.map (mapT (chF (r.b.zip q.b))))) : PyData.strOk x = true ∧ x.length ≤ 6 := by
  (first | (refine hideW ?_; intro gG9; obtain ⟨o, ho, e⟩ := List.mem_map.mp h; refine (?_ : wpAny _ _ _ _ _ _); clear gG9) | obtain ⟨o, ho, e⟩ := List.mem_map.mp h)
  cases o with
  | none => cases e
  | some y =>
    obtain rfl := Option.some.inj e
    obtain ⟨h1, h2⟩ := hx y ho
    refine ⟨small_ok fun c hc => ?_, ?_⟩
    · have hc' : c ∈ y.cps.toList.map (chF (r.b.zip q.b)) := by simpa [mapT] using hc
      (first | (refine hideW ?_; intro gG9; obtain ⟨z, hz, zq1⟩ := List.mem_map.mp hc'; refine (?_ : wpAny _ _ _ _ _ _); clear gG9; (first | subst zq1 | cases zq1)) | obtain ⟨z, hz, rfl⟩ := List.mem_map.mp hc')
      exact (backs r hr q hq z (h2 z hz)).2
    · show (List.map _ y.cps.toList).toArray.size ≤ 6
      rw [List.size_toArray, List.length_map, Array.length_toList]
      exact h1
theorem len_is {prog : Program} {w : World} {A : Around} {E : Value → Shared → Prop} {s : Shared} {x : Str} {t : Tok} {n : Nat} {Q : Value → Shared → Prop} (hx : x.length = n) (hn : n ≤ 1000) (h : Q (.int (n : Int) (s.toks + 1)) { s with toks := s.toks + 1 + 1 }) :
    wpAny (model prog w) A (call (.builtin "len") [.str x t]) Q E s := by
  subst hx
  exact len_str (by (exact om25 (by k_asm))) h
theorem head_is {x : Str} {l : List Nat} {n : Nat} (hx : x.cps.toList = l) : Txt.slice x none (some (n : Int)) = ⟨(l.take n).toArray⟩ := str_eq (by rw [slice_to_nn, hx])
theorem back_all {r q : ORow} (hr : r ∈ OLDS) (hq : q ∈ NEWS) {os : List (Option Str)} (hx : ∀ x, some x ∈ os → x.length ≤ 6 ∧ ∀ c ∈ x.cps.toList, c ∈ SIGNS) : (os.map (Option.map (mapT (chF (r.b.zip q.b))))).map (fun o => o.map (mapT (chF ((q.b.take r.b.length).zip r.b)))) = os := by
  rw [List.map_map]
  refine (List.map_congr_left (g := id) fun o ho => ?_).trans (List.map_id _)
  cases o with
  | none => rfl
  | some x => exact congrArg some (mapT_back hr hq (hx x ho).2)
theorem codeHd_turn {g g' : Heap} {fs : List Addr} (C : CodeHd g 661 657) (T : KtsTurn fs g g') (h : (661 : Addr) ∉ fs) : CodeHd g' 661 657 := by
  (first | (refine hideW ?_; intro gG9; obtain ⟨o, vs, file, tf, flags, tg, inF, text, tt, e1, r⟩ := C; refine (?_ : wpAny _ _ _ _ _ _); clear gG9) | obtain ⟨o, vs, file, tf, flags, tg, inF, text, tt, e1, r⟩ := C)
  exact ⟨o, vs, file, tf, flags, tg, inF, text, tt, T.other _ _ e1 h, r⟩
/-- the drawn texts of the exchange -/
noncomputable def WSX (j : Nat) (c : WS) : Prop := DrumO c.o ∧ OSAre c.vs c.os ∧ c.os.length = j ∧ ∀ x, some x ∈ c.os → x.length ≤ 6 ∧ ∀ c ∈ x.cps.toList, c ∈ SIGNS
noncomputable def SignsX (i : Nat) (ys : List Value) (o : Obj) : Prop := DrumO o ∧ ∃ cs : List Nat, OSAre ys (cs.map sgn) ∧ cs.length = i ∧ ∀ c ∈ cs, c ∈ SIGNS
theorem SignsX.snoc {i : Nat} {ys : List Value} {o o' : Obj} {c : Nat} {t : Tok} (h : SignsX i ys o) (hD : DrumO o') (hc : c ∈ SIGNS) : SignsX (i + 1) (ys ++ [.str ⟨#[c]⟩ t]) o' := by
  (first | (refine hideW ?_; intro gG9; obtain ⟨_, cs, h1, h2, h3⟩ := h; refine (?_ : wpAny _ _ _ _ _ _); clear gG9) | obtain ⟨_, cs, h1, h2, h3⟩ := h)
  refine ⟨hD, cs ++ [c], ?_, by simp [h2], fun x hx => ?_⟩
  · rw [List.map_append]
    exact OSAre.snoc h1 ⟨t, rfl⟩
  · rcases List.mem_append.mp hx with hx | hx
    · exact h3 x hx
    · rw [List.mem_singleton.mp hx]; exact hc
theorem letters {j : Nat} (hj : j < 10) : ∃ c, (Str.ofString "abcdexyz -").cps.toList[j]? = some c ∧ c ∈ SIGNS := by
  have h : ∀ j : Nat, j < 10 → ∃ c ∈ SIGNS, (Str.ofString "abcdexyz -").cps.toList[j]? = some c := by decide +kernel
  (first | (refine hideW ?_; intro gG9; obtain ⟨c, h1, h2⟩ := h j hj; refine (?_ : wpAny _ _ _ _ _ _); clear gG9) | obtain ⟨c, h1, h2⟩ := h j hj)
  exact ⟨c, h2, h1⟩
set_option maxRecDepth 100000 in
set_option maxHeartbeats 4000000 in
theorem exchanged_ok (w : World) (d : Addr) (o : Obj) (hD : DrumO o) (hd657 : @Ne Nat d 657) : CallsT w 719 [.ref d] 90 4800 [(d, o), (657, tabObj #[])] (fun h => CodeHd h 661 657) (fun v post => v = .bool true ∧ ∃ o' ps, DrumO o' ∧ post = [(d, o'), (657, tabObj ps)]) := by
  unfold CallsT
  have tg9 : Mine.Tg 73873 := tgI 73873
  k_fill
  intro p loose mean mg mb dp un gd cn cs a ccd cl outer A₀ base h₀ L m rest s Q E B F X N hoff T XB TB DK hk hd hu hy hret
  refine wpAny_call ?_
  k_dflt (refine' code_defTC B F X N hoff T XB TB DK ?kA ?kF ?kK ?k6 ?k7 ?k8 ?k9 ?kB ?kD hret ?_ ?c2 ?c3 ?c4; (case kA => exact rfl); (case kF => exact rfl); (case kK => assumption); (case k6 => k_is); (case k7 => k_is); (case k8 => ktr_room); (case k9 => first | exact BindsTo.of_eq rfl | exact binds_K (by k_in) rfl (by k_is) rfl rfl rfl); (case kB => exact rfl); (case kD => decide +kernel); (case c2 => exact rfl); (case c3 => exact rfl); (case c4 => exact rfl); k_whole; intro g1 L1 h1 tk1 cells1 FG1 F1 N1 Y1 B1 X1 T1 l1 G1 D1; (try k_lt l1); k_cells Y1; (try dsimp only [List.cons_append, List.nil_append] at N1); (try dsimp only); (try k_lift B1); (try k_fold))
  refine name_env ?_
  intro aA eE xE
  have e1 : @Ne Nat d (L1 + 1) := lt_ne (lt_up (l1 _ (.head _)))
  have e2 : @Ne Nat d (L1 + 1 + 1) := lt_ne (lt_up (lt_up (l1 _ (.head _))))
  have e3 : @Ne Nat d (L1 + 1 + 1 + 1) := lt_ne (lt_up (lt_up (lt_up (l1 _ (.head _)))))
  have f1 : @LT.lt Nat _ 657 L1 := l1 _ (.tail _ (.head _))
  have f2 : @LT.lt Nat _ d L1 := l1 _ (.head _)
  have hB : Dist [L1 + 1 + 1 + 1, L1 + 1 + 1, L1 + 1, 657, d] := dist_top (List.forall_mem_cons.mpr ⟨Nat.lt_succ_self _, List.forall_mem_cons.mpr ⟨lt_up (Nat.lt_succ_self _), List.forall_mem_cons.mpr ⟨lt_up (lt_up (lt_up f1)), List.forall_mem_cons.mpr ⟨lt_up (lt_up (lt_up f2)), List.forall_mem_nil _⟩⟩⟩⟩) (dist_top (List.forall_mem_cons.mpr ⟨Nat.lt_succ_self _, List.forall_mem_cons.mpr ⟨lt_up (lt_up f1), List.forall_mem_cons.mpr ⟨lt_up (lt_up f2), List.forall_mem_nil _⟩⟩⟩) (dist_top (List.forall_mem_cons.mpr ⟨lt_up f1, List.forall_mem_cons.mpr ⟨lt_up f2, List.forall_mem_nil _⟩⟩) ⟨(List.forall_mem_cons.mpr ⟨Ne.symm hd657, List.forall_mem_nil _⟩), List.forall_mem_nil _, trivial⟩))
  k_with "call ref" => guard_hyp tg9 : Mine.Tg 73873; ((with_reducible show wpAny _ _ (call (Value.ref 681) _) _ _ _); (k_dflt (refine useB (d := d) (by assumption) (by decide) (by decide) (by k_asm) (by k_asm) (by k_asm) (by k_asm) (by k_asm) (by first | exact rfl | assumption) (by ktr_room) (by ktr_units) (by k_extra "pkA") (by k_extra "off") ?_)); intro j9 t9 o9 h9 tk9 F9 N9 hj9 hD9)
  rename_i oN oR oDr dN dR dDr
  replace dN : oN.data = Data.cell none := dN
  replace dR : oR.data = Data.cell none := dR
  replace dDr : oDr.data = Data.cell (some (.ref d)) := dDr
  have hy1 : CodeHd g1 661 657 := codeHd_g hy G1 N (fun a ha => by rw [List.map_append]; exact List.mem_append_left _ ha) (X 661 _ (by with_unfolding_all rfl))
  with_reducible refine cut3 1 g1 L1 s (fun (o2 : Obj) (r : ORow) (tr : Tok) => [(Str.ofString "old", .str r.old tr)]) (fun o2 r tr => [(d, o2), (L1 + 1 + 1 + 1, oN), (L1 + 1 + 1, oR), (L1 + 1, oDr), (657, tabObj #[])]) (fun o2 r tr => DrumO o2 ∧ r ∈ OLDS) ?_ ?_
  ·
    refine (?_ : wpAny _ _ (execs (_ :: _) _) _ _ _)
    k_with "subscriptTail" => guard_hyp tg9 : Mine.Tg 73873; ((with_reducible show wpAny _ _ (subscriptTail _ _ (Value.ref _) (Value.int _ _)) _ _ _); refine Halt.out ?_)
    k_steps
    unfold Halt
    refine menu_at (fun v => ∃ r t, v = Value.str (ORow.old r) t ∧ r ∈ OLDS) (by k_asm) (by k_mem) (by exact hj9) (by show 5 < 1000000; decide) ?_ ?_
    · unfold OLDS
      refine List.forall_mem_cons.mpr ⟨⟨_, _, rfl, .head _⟩, List.forall_mem_cons.mpr ⟨⟨_, _, rfl, .tail _ (.head _)⟩, List.forall_mem_cons.mpr ⟨⟨_, _, rfl, .tail _ (.tail _ (.head _))⟩, List.forall_mem_cons.mpr ⟨⟨_, _, rfl, .tail _ (.tail _ (.tail _ (.head _)))⟩, List.forall_mem_cons.mpr ⟨⟨_, _, rfl, .tail _ (.tail _ (.tail _ (.tail _ (.head _))))⟩, List.forall_mem_nil _⟩⟩⟩⟩⟩
    rintro _ ⟨r, tr, rfl, hr⟩
    k_steps
    exact At.intro (by assumption) (by assumption) (o9, r, tr) (by kqd_sub) (by tb_start) ⟨hD9, hr⟩
  · intro o2 r tr m2 h2 tk2 F2 N2 pP9
    obtain ⟨hD2, hr⟩ := pP9
    refine (?_ : wpAny _ _ (execs (_ :: _) _) _ _ _)
    with_reducible refine cut2 1 g1 L1 s (fun (tq : Tok) (oR2 : Obj) => [(Str.ofString "old", .str r.old tr)]) (fun tq oR2 => [(d, o2), (L1 + 1 + 1 + 1, oN), (L1 + 1 + 1, oR2), (L1 + 1, oDr), (657, tabObj #[])]) (fun tq oR2 => oR2.data = Data.cell (some (.str r.row tq))) ?_ ?_
    ·
      refine (?_ : wpAny _ _ (execs (_ :: _) _) _ _ _)
      k_with "subscriptTail" => guard_hyp tg9 : Mine.Tg 73873; refine Halt.out ?_
      k_steps
      rename_i N3 _ _ hd3 _ _
      unfold Halt
      refine row_item N3 (.head _) hd3 hr rfl ?_
      intro tq
      k_steps
      rename_i oR2 _ _ dR2
      exact At.intro (by assumption) (by assumption) (tq, oR2) (by kqd_sub) (by tb_start) dR2
    · intro tq oR2 m3 h3 tk3 F3 N3 dR2
      clear F2 N2
      refine (?_ : wpAny _ _ (execs (_ :: _) _) _ _ _)
      try dsimp only at F3 N3 dR2 hD2 hr
      with_reducible refine cut5 3 g1 L1 s (fun (o3 : Obj) (q : ORow) (tn : Tok) (oN2 : Obj) (tq2 : Tok) => [(Str.ofString "old", .str r.old tr), (Str.ofString "new", .str q.old tn)]) (fun o3 q tn oN2 tq2 => [(d, o3), (L1 + 1 + 1 + 1, oN2), (L1 + 1 + 1, oR2), (L1 + 1, oDr), (657, tabObj #[])]) (fun o3 q tn oN2 tq2 => DrumO o3 ∧ q ∈ NEWS ∧ oN2.data = Data.cell (some (.str q.row tq2))) ?_ ?_
      ·
        refine (?_ : wpAny _ _ (execs (_ :: _) _) _ _ _)
        k_with "subscriptTail" => guard_hyp tg9 : Mine.Tg 73873; ((with_reducible show wpAny _ _ (subscriptTail _ _ (Value.ref _) (Value.int _ _)) _ _ _); refine Halt.out ?_)
        k_steps
        unfold Halt
        refine menu_at (fun v => ∃ q t, v = Value.str (ORow.old q) t ∧ q ∈ NEWB) (by k_asm) (by k_mem) (by exact hj9) (by show 2 < 1000000; decide) ?_ ?_
        · unfold NEWB
          refine List.forall_mem_cons.mpr ⟨⟨_, _, rfl, .head _⟩, List.forall_mem_cons.mpr ⟨⟨_, _, rfl, .tail _ (.head _)⟩, List.forall_mem_nil _⟩⟩
        rintro _ ⟨q, tn, rfl, hq⟩
        k_with "call builtin:dict.get cons nil" => guard_hyp tg9 : Mine.Tg 73873; refine Halt.out ?_
        k_steps
        · unfold Halt
          refine menu_at (fun v => ∃ q t, v = Value.str (ORow.old q) t ∧ q ∈ NEWA) (by k_asm) (by k_mem) (by exact hj9) (by show 2 < 1000000; decide) ?_ ?_
          · unfold NEWA
            refine List.forall_mem_cons.mpr ⟨⟨_, _, rfl, .head _⟩, List.forall_mem_cons.mpr ⟨⟨_, _, rfl, .tail _ (.head _)⟩, List.forall_mem_nil _⟩⟩
          rintro _ ⟨q2, tn2, rfl, hq2⟩
          k_steps
          rename_i N4 _ lo4 hd4 _ _
          unfold Halt
          refine newA_get N4 (.head _) hd4 lo4 hq2 rfl ?_
          intro t5
          k_steps
          exact At.intro (by assumption) (by assumption) (_, q2, tn2, _, t5) (by kqd_sub) (by tb_start) ⟨by with_reducible assumption, newA_in hq2, by with_reducible assumption⟩
        · rename_i N4 _ lo4 hd4 _ _
          unfold Halt
          refine newB_get N4 (.head _) hd4 lo4 hq rfl ?_
          k_steps
          exact At.intro (by assumption) (by assumption) (_, q, tn, _, tn) (by kqd_sub) (by tb_start) ⟨by with_reducible assumption, newB_in hq, by with_reducible assumption⟩
      · intro o3 q tn oN2 tq2 m4 h4 tk4 F4 N4 pP9
        clear F3 N3
        (first | (refine hideW ?_; intro gG9; obtain ⟨hD3, hq, dN2⟩ := pP9; refine (?_ : wpAny _ _ _ _ _ _); clear gG9) | obtain ⟨hD3, hq, dN2⟩ := pP9)
        refine (?_ : wpAny _ _ (execs (_ :: _) _) _ _ _)
        try dsimp only at F4 N4 hD3 hq dN2
        with_reducible refine cut2 2 g1 L1 s (fun (c : WS) (lw : Addr) => [(Str.ofString "old", .str r.old tr), (Str.ofString "new", .str q.old tn), (Str.ofString "words", .ref lw)]) (fun c lw => [(d, c.o), (lw, listOf c.vs.toArray c.n), (L1 + 1 + 1 + 1, oN2), (L1 + 1 + 1, oR2), (L1 + 1, oDr), (657, tabObj #[])]) (fun c lw => (∃ j, j ≤ 3 ∧ WSX j c) ∧ @LT.lt Nat _ (L1 + 1 + 1 + 1) lw ∧ @LT.lt Nat _ d lw ∧ @LT.lt Nat _ 657 lw) ?_ ?_
        ·
          refine (?_ : wpAny _ _ (execs (_ :: _) _) _ _ _)
          k_with "pyIter ref" => guard_hyp tg9 : Mine.Tg 73873; refine Halt.out ?_
          k_steps
          rename_i lw _ lW _ _ _ _ _ _ _ _ _ _ _ _ _ _ _ _ _ hr8 F8 N8 _
          unfold Halt
          have hj3 : j9 < 4 := hj9
          refine' for_range (n := j9) (fun c : WS => [(d, c.o), (lw, listOf c.vs.toArray c.n), (L1 + 1 + 1 + 1, oN2), (L1 + 1 + 1, oR2), (L1 + 1, oDr), (657, tabObj #[])]) (fun _ => []) [] WSX ⟨o9, [], 0, []⟩ (by rfl) hr8 (small_one (by (exact om2)) (by (exact om3)) (by (exact om4)) (by (exact om26 (by k_asm)))) (rangeSize_nat _ _) F8 (news_sub N8 (by kqd_sub)) (List.forall_mem_nil _) ⟨hD9, OSAre.nil, rfl, fun _ h => nomatch h⟩ ?turn3 ?done3
          case turn3 =>
            intro c j t8 u8 h8 tk8 own8 hj hoff8 ha8 hP8 F9 N9
            (first | (refine hideW ?_; intro gG9; obtain ⟨hDc, hvc, hlc, hxc⟩ := hP8; refine (?_ : wpAny _ _ _ _ _ _); clear gG9) | obtain ⟨hDc, hvc, hlc, hxc⟩ := hP8)
            dsimp only [List.map_cons, List.map_nil, List.cons_append, List.nil_append] at hoff8 N9
            have hvl : c.vs.length ≤ 4 := by rw [hvc.1, hlc]; (exact om27 (by k_asm) (by k_asm))
            have hn8 : NeAll d own8 := ne_all fun q hq => (hoff8 q hq d (.head _)).symm
            have q8 : NeAll lw own8 := ne_all fun q hq => (hoff8 q hq lw (.tail _ (.head _))).symm
            k_with "eval ListComp Subscript cons" => guard_hyp tg9 : Mine.Tg 73873; refine Halt.out ?_
            k_with "call builtin:list.append cons nil" => guard_hyp tg9 : Mine.Tg 73873; ((((k_dflt (refine app_at (by k_asm) (by k_asm) (by k_extra "pkA") (by k_extra "off") (by first | exact Nat.le_trans (by with_reducible assumption) (Nat.le_of_ble_eq_true rfl) | omega) ?_)); intro hA FA NA)))
            k_steps
            · refine' turn_next ⟨o9, c.vs ++ [.none], c.n + 1, c.os ++ [none]⟩ (by assumption) NA (by kqd_sub) (fun p hp => .tail _ (.tail _ (.tail _ (.tail _ (.tail _ (.tail _ hp)))))) rfl (List.forall_mem_nil _) (by (intro z; (first | intro h1 h2 h3 | intro h2 h3); (repeat (first | with_reducible rfl | exact relS h3 | refine relI (by first | with_reducible assumption | exact relN h3 (by with_unfolding_all rfl) | exact relP h2 (by with_unfolding_all rfl)) ?_ | refine relK (by first | with_reducible assumption | exact List.forall_mem_nil _ | exact relM h2 rfl) ?_ | exact rfl)); done)) ⟨by with_reducible assumption, OSAre.snoc hvc rfl, by simp [hlc], ?hx1⟩
              case hx1 =>
                intro x hx
                rcases List.mem_append.mp hx with hx | hx
                · exact hxc x hx
                · cases List.mem_singleton.mp hx
            · unfold Halt
              ((k_dflt (refine LCg.ListComp_U (F₀ := by k_asm) (by with_unfolding_all rfl) (by decide) (by rfl) (by decide) (by rfl) ?_)))
              k_with "CompSrc" => guard_hyp tg9 : Mine.Tg 73873; refine Halt.out ?_
              k_steps
              rename_i hr7 F7 N7 _
              unfold Halt
              have hj7 : j9 < 7 := hj9
              refine LCg.CompSrc.range (news := (d, o9) :: (lw, listOf c.vs.toArray c.n) :: (L1 + 1 + 1 + 1, oN2) :: (L1 + 1 + 1, oR2) :: (L1 + 1, oDr) :: (657, tabObj #[]) :: own8) (by rfl) F7 (news_sub N7 (by kqd_sub)) hr7 (small_one (by (exact om2)) (by (exact om3)) (by (exact om4)) (by (exact om28 (by k_asm)))) (rangeSize_nat _ _) (by rw [sizeLine_eq]; (exact om29 (by k_asm))) ?_
              intro g2
              refine comp_inv (σ := Obj) (fun o => (d, o) :: (lw, listOf c.vs.toArray c.n) :: (L1 + 1 + 1 + 1, oN2) :: (L1 + 1 + 1, oR2) :: (L1 + 1, oDr) :: (657, tabObj #[]) :: own8) SignsX o9 ⟨hD9, [], OSAre.nil, rfl, fun _ h => nomatch h⟩ ?turn4 ?fin4
              case turn4 =>
                intro o2 i v ys I oI C oC D m₂ h11 tk11 E' hi hv hP hC hx2 F10 N10 off10 ne10
                have hDo := hP.1
                (first | (refine hideW ?_; intro gG9; obtain ⟨q1, q2, q3⟩ := off10.1; refine (?_ : wpAny _ _ _ _ _ _); clear gG9) | obtain ⟨q1, q2, q3⟩ := off10.1)
                try dsimp only at q1 q2 q3
                k_with "CompEnd" => guard_hyp tg9 : Mine.Tg 73873; refine Halt.out ?_
                k_with "subscriptTail" => guard_hyp tg9 : Mine.Tg 73873; ((with_reducible show wpAny _ _ (subscriptTail _ _ (Value.str _ _) (Value.int _ _)) _ _ _); refine Halt.out ?_)
                k_steps
                unfold Halt
                (first | (refine hideW ?_; intro gG9; obtain ⟨cc, hcc, hcs⟩ := letters hj9; refine (?_ : wpAny _ _ _ _ _ _); clear gG9) | obtain ⟨cc, hcc, hcs⟩ := letters hj9)
                refine sign_at hcc rfl (by decide) ?_
                k_steps
                unfold Halt
                exact LCg.CompEnd.intro (by assumption) (by assumption) ((d, o9) :: (lw, listOf c.vs.toArray c.n) :: (L1 + 1 + 1 + 1, oN2) :: (L1 + 1 + 1, oR2) :: (L1 + 1, oDr) :: (657, tabObj #[]) :: own8) (by kqd_sub) (off3_addr rfl off10) trivial ⟨o9, rfl, hP.snoc hD9 hcs⟩
              case fin4 =>
                intro ys o3 hP
                unfold LCg.FinE
                intro D3 h3 tk3 F10 N10 o10
                (first | (refine hideW ?_; intro gG9; obtain ⟨hD3, sg3, hs1, hs2, hs3⟩ := hP; refine (?_ : wpAny _ _ _ _ _ _); clear gG9) | obtain ⟨hD3, sg3, hs1, hs2, hs3⟩ := hP)
                have q4 := o10.1
                have q5 := o10.2.1
                try dsimp only at q4 q5
                have q9 : @LT.lt Nat _ d lw := lt_in lW (by k_mem)
                k_with "call builtin:list.append cons nil" => guard_hyp tg9 : Mine.Tg 73873; ((((k_dflt (refine app_at (by k_asm) (by k_asm) (by k_extra "pkA") (by k_extra "off") (by first | exact Nat.le_trans (by with_reducible assumption) (Nat.le_of_ble_eq_true rfl) | omega) ?_)); intro hA FA NA)))
                k_with "call builtin:str.join cons nil" => guard_hyp tg9 : Mine.Tg 73873; (refine join_at (by k_asm) (by k_mem) hs1 (by (exact om30 (by k_asm) (by k_asm))) ?_; intro t7 k7)
                k_steps
                obtain ⟨vw, ⟨tw, hvw⟩, NB⟩ : ∃ vw, (∃ t, vw = Value.str (⟨sg3.toArray⟩ : Str) t) ∧ News g1 L1 _ ((lw, listOf (c.vs ++ [vw]).toArray (c.n + 1)) :: (d, o3) :: (D3, LCg.lst ys) :: (L1 + 1 + 1 + 1, oN2) :: (L1 + 1 + 1, oR2) :: (L1 + 1, oDr) :: (657, tabObj #[]) :: own8) := ⟨_, ⟨_, rfl⟩, news_sub NA (by kqd_sub)⟩
                refine' turn_next ⟨o3, c.vs ++ [vw], c.n + 1, c.os ++ [some ⟨sg3.toArray⟩]⟩ (by assumption) NB (by kqd_sub) (fun p hp => .tail _ (.tail _ (.tail _ (.tail _ (.tail _ (.tail _ (.tail _ hp))))))) rfl (List.forall_mem_nil _) (by (intro z; (first | intro h1 h2 h3 | intro h2 h3); (repeat (first | with_reducible rfl | exact relS h3 | refine relI (by first | with_reducible assumption | exact relN h3 (by with_unfolding_all rfl) | exact relP h2 (by with_unfolding_all rfl)) ?_ | refine relK (by first | with_reducible assumption | exact List.forall_mem_nil _ | exact relM h2 rfl) ?_ | exact rfl)); done)) ⟨hD3, OSAre.snoc hvc ⟨tw, hvw⟩, by simp [hlc], ?hx2⟩
                case hx2 =>
                  intro x hx
                  rcases List.mem_append.mp hx with hx | hx
                  · exact hxc x hx
                  · have e := Option.some.inj (List.mem_singleton.mp hx)
                    subst e
                    refine ⟨?_, fun z hz => hs3 z (by simpa using hz)⟩
                    show sg3.toArray.size ≤ 6
                    rw [List.size_toArray]; (exact om31 (by k_asm) (by k_asm))
          case done3 =>
            intro c u8 h8 tk8 hP8 F9 N9
            try refine wpAny_execs_nil ?_
            k_steps
            exact At.intro (by assumption) (by assumption) (c, lw) (by kqd_sub) (by tb_start) ⟨⟨j9, by (exact om32 (by k_asm)), hP8⟩, lt_in lW (by k_mem), lt_in lW (by k_mem), lt_in lW (by k_mem)⟩
        · intro c lw m5 h5 tk5 F5 N5 pP9
          clear F4 N4
          (first | (refine hideW ?_; intro gG9; obtain ⟨⟨jw, hjw, hDc, hvc, hlc, hxc⟩, lw1, lw2, lw3⟩ := pP9; refine (?_ : wpAny _ _ _ _ _ _); clear gG9) | obtain ⟨⟨jw, hjw, hDc, hvc, hlc, hxc⟩, lw1, lw2, lw3⟩ := pP9)
          refine (?_ : wpAny _ _ (execs (_ :: _) _) _ _ _)
          try dsimp only at F5 N5 hDc hvc hlc hxc lw1 lw2 lw3
          have hvl : c.vs.length ≤ 3 := by rw [hvc.1, hlc]; exact hjw
          with_reducible refine cut2 2 g1 L1 s (fun (e : (List Value × Nat)) (ld : Addr) => [(Str.ofString "old", .str r.old tr), (Str.ofString "new", .str q.old tn), (Str.ofString "words", .ref lw), (Str.ofString "due", .ref ld)]) (fun e ld => [(ld, listOf e.1.toArray e.2), (d, c.o), (lw, listOf c.vs.toArray c.n), (L1 + 1 + 1 + 1, oN2), (L1 + 1 + 1, oR2), (L1 + 1, oDr), (657, tabObj #[])]) (fun e ld => OSAre e.1 (c.os.map (Option.map (mapT (chF (r.b.zip q.b))))) ∧ @LT.lt Nat _ lw ld ∧ @LT.lt Nat _ (L1 + 1 + 1 + 1) ld ∧ @LT.lt Nat _ d ld ∧ @LT.lt Nat _ 657 ld) ?_ ?_
          ·
            refine (?_ : wpAny _ _ (execs (_ :: _) _) _ _ _)
            k_with "pyIter ref" => guard_hyp tg9 : Mine.Tg 73873; refine Halt.out ?_
            k_steps
            rename_i ld _ lD _ _ N6 _ _ _ F6 _
            unfold Halt
            refine' for_listL (l := lw) (vs := c.vs) (nn := c.n) (fun e : List Value × Nat => [(ld, listOf e.1.toArray e.2), (d, c.o), (lw, listOf c.vs.toArray c.n), (L1 + 1 + 1 + 1, oN2), (L1 + 1 + 1, oR2), (L1 + 1, oDr), (657, tabObj #[])]) (fun _ => []) [] (fun j e => OSAre e.1 ((c.os.map (Option.map (mapT (chF (r.b.zip q.b))))).take j)) ([], 0) (by rfl) (fun _ => .tail _ (.tail _ (.head _))) F6 (news_sub N6 (by kqd_sub)) (List.forall_mem_nil _) OSAre.nil ?turn5 ?done5
            case turn5 =>
              intro e j v u8 h8 tk8 own8 hj hv8 hoff8 ha8 hP8 F9 N9
              (first | (refine hideW ?_; intro gG9; obtain ⟨o6, hoi, hov⟩ := hvc.2 j v hv8; refine (?_ : wpAny _ _ _ _ _ _); clear gG9) | obtain ⟨o6, hoi, hov⟩ := hvc.2 j v hv8)
              have hom : o6 ∈ c.os := List.mem_of_getElem? hoi
              have hgo : ∀ v', OSV (o6.map (mapT (chF (r.b.zip q.b)))) v' → OSAre (e.1 ++ [v']) ((c.os.map (Option.map (mapT (chF (r.b.zip q.b))))).take (j + 1)) := fun v' hv' => by
                have e5 : (c.os.map (Option.map (mapT (chF (r.b.zip q.b)))))[j]? = some (o6.map (mapT (chF (r.b.zip q.b)))) := by simp [hoi]
                rw [List.take_add_one, e5]
                exact OSAre.snoc hP8 hv'
              have hel : e.1.length ≤ 3 := by have := hP8.1; rw [List.length_take, List.length_map] at this; (exact om33 hjw hlc this)
              dsimp only [List.map_cons, List.map_nil, List.cons_append, List.nil_append] at hoff8 N9
              have q8 : NeAll ld own8 := ne_all fun q hq => (hoff8 q hq ld (.head _)).symm
              k_with "call builtin:list.append cons nil" => guard_hyp tg9 : Mine.Tg 73873; ((((k_dflt (refine app_at (by k_asm) (by k_asm) (by k_extra "pkA") (by k_extra "off") (by first | exact Nat.le_trans (by with_reducible assumption) (Nat.le_of_ble_eq_true rfl) | omega) ?_)); intro hA FA NA)))
              cases o6 with
              | none =>
                obtain rfl : v = .none := hov
                k_steps
                exact turn_next (e.1 ++ [.none], e.2 + 1) (by assumption) NA (by kqd_sub) (fun p hp => .tail _ (.tail _ (.tail _ (.tail _ (.tail _ (.tail _ (.tail _ hp))))))) rfl (List.forall_mem_nil _) (by (intro z; (first | intro h1 h2 h3 | intro h2 h3); (repeat (first | with_reducible rfl | exact relS h3 | refine relI (by first | with_reducible assumption | exact relN h3 (by with_unfolding_all rfl) | exact relP h2 (by with_unfolding_all rfl)) ?_ | refine relK (by first | with_reducible assumption | exact List.forall_mem_nil _ | exact relM h2 rfl) ?_ | exact rfl)); done)) (hgo Value.none rfl)
              | some x =>
                obtain ⟨tx, rfl⟩ := hov
                obtain ⟨hxl, hxs⟩ := hxc x hom
                k_with "eval ListComp IfExp cons" => guard_hyp tg9 : Mine.Tg 73873; refine Halt.out ?_
                k_steps
                unfold Halt
                k_dflt (refine ListComp_T (F₀ := by k_asm) (by with_unfolding_all rfl) (by decide) (by rfl) (by decide) (by rfl) ?_)
                k_steps
                refine TextSrc.intro ((ld, listOf e.1.toArray e.2) :: (d, c.o) :: (lw, listOf c.vs.toArray c.n) :: (L1 + 1 + 1 + 1, oN2) :: (L1 + 1 + 1, oR2) :: (L1 + 1, oDr) :: (657, tabObj #[]) :: own8) (by rfl) (by rw [sizeLine_eq]; (exact Nat.le_trans (by with_reducible assumption) (Nat.le_of_ble_eq_true rfl))) (by assumption) (by assumption) ?_
                intro g2
                refine comp_inv (σ := Unit) (fun _ => (ld, listOf e.1.toArray e.2) :: (d, c.o) :: (lw, listOf c.vs.toArray c.n) :: (L1 + 1 + 1 + 1, oN2) :: (L1 + 1 + 1, oR2) :: (L1 + 1, oDr) :: (657, tabObj #[]) :: own8) (fun i ys _ => OSAre ys (((x.cps.toList.map (chF (r.b.zip q.b))).take i).map sgn)) () OSAre.nil ?turn6 ?fin6
                case turn6 =>
                  intro _ i v ys I oI C oC D m₂ h11 tk11 E' hi hv hP hC hx2 F10 N10 off10 ne10
                  (first | (refine hideW ?_; intro gG9; obtain ⟨cz, uz, hcz, zq1⟩ := hv; refine (?_ : wpAny _ _ _ _ _ _); clear gG9; (first | subst zq1 | cases zq1)) | obtain ⟨cz, uz, hcz, rfl⟩ := hv)
                  have hczm : cz ∈ x.cps.toList := List.mem_of_getElem? (i := i) (by simpa using hcz)
                  have hgo6 : ∀ tt : Nat, OSAre (ys ++ [.str ⟨#[chF (r.b.zip q.b) cz]⟩ tt]) (((x.cps.toList.map (chF (r.b.zip q.b))).take (i + 1)).map sgn) := fun tt => by
                    have : (x.cps.toList.map (chF (r.b.zip q.b)))[i]? = some (chF (r.b.zip q.b) cz) := by simp [hcz]
                    rw [List.take_add_one, this, List.map_append]
                    exact OSAre.snoc hP ⟨tt, rfl⟩
                  k_with "CompEnd" => guard_hyp tg9 : Mine.Tg 73873; refine Halt.out ?_
                  k_with "compareOp In str str" => guard_hyp tg9 : Mine.Tg 73873; refine Halt.out ?_
                  k_steps
                  unfold Halt
                  refine in_str ?_
                  have hql : q.row.length ≤ 1000 := by
                    (first | (refine hideW ?_; intro gG9; obtain ⟨_, e2, _, _, e5, _⟩ := rowOk.out (news_ok q hq).1; refine (?_ : wpAny _ _ _ _ _ _); clear gG9) | obtain ⟨_, e2, _, _, e5, _⟩ := rowOk.out (news_ok q hq).1)
                    show q.row.cps.size ≤ 1000
                    rw [← Array.length_toList, e2]; (exact Nat.le_trans (by with_reducible assumption) (Nat.le_of_ble_eq_true rfl))
                  rcases seat_cases (seats r hr q hq cz (hxs cz hczm)) with ⟨p1, p2⟩ | ⟨ix, rest9, p1, p2, p3⟩
                  · rw [p1]
                    dsimp only [List.isEmpty_nil, Bool.not_true]
                    replace p2 : ∀ _ : Unit, chF (r.b.zip q.b) cz = cz := fun _ => p2
                    clear p1
                    k_steps
                    unfold Halt
                    refine LCg.CompEnd.intro (by assumption) N10 _ (fun _ h => h) off10 trivial ⟨(), rfl, ?_⟩
                    have := hgo6 uz
                    rw [p2 ()] at this
                    exact this
                  · have e1 : (!(Builtin.Str.occurrences r.row { cps := #[cz] } 0 r.row.length 1).isEmpty) = true := by rw [p1]; rfl
                    rw [e1]
                    clear e1
                    replace p1 : ∀ _ : Unit, Builtin.Str.occurrences r.row { cps := #[cz] } 0 r.row.length 1 = ix :: rest9 := fun _ => p1
                    replace p3 : ∀ _ : Unit, q.row.cps.toList[ix]? = some (chF (r.b.zip q.b) cz) := fun _ => p3
                    k_with "call builtin:str.index cons nil" => guard_hyp tg9 : Mine.Tg 73873; (refine SC.index (p1 ()) ?_)
                    k_with "subscriptTail" => guard_hyp tg9 : Mine.Tg 73873; ((with_reducible show wpAny _ _ (subscriptTail _ _ (Value.str _ _) (Value.int _ _)) _ _ _); refine sign_at (p3 ()) rfl hql ?_)
                    k_steps
                    unfold Halt
                    exact LCg.CompEnd.intro (by assumption) (by assumption) _ (by kqd_sub) off10 trivial ⟨(), rfl, hgo6 _⟩
                case fin6 =>
                  intro ys _ hP
                  rw [List.take_of_length_le (by simp)] at hP
                  unfold LCg.FinE
                  intro D3 h3 tk3 F10 N10 o10
                  have q4 := o10.1
                  try dsimp only at q4
                  k_with "call builtin:str.join cons nil" => guard_hyp tg9 : Mine.Tg 73873; (refine join_at (by k_asm) (by k_mem) hP (by rw [List.length_map]; simp [Str.length] at hxl ⊢; (exact Nat.le_trans (by with_reducible assumption) (Nat.le_of_ble_eq_true rfl))) ?_; intro t7 k7)
                  k_steps
                  exact turn_next (e.1 ++ [.str (mapT (chF (r.b.zip q.b)) x) _], e.2 + 1) (by assumption) NA (by kqd_sub) (fun p hp => .tail _ (.tail _ (.tail _ (.tail _ (.tail _ (.tail _ (.tail _ (.tail _ hp)))))))) rfl (List.forall_mem_nil _) (by (intro z; (first | intro h1 h2 h3 | intro h2 h3); (repeat (first | with_reducible rfl | exact relS h3 | refine relI (by first | with_reducible assumption | exact relN h3 (by with_unfolding_all rfl) | exact relP h2 (by with_unfolding_all rfl)) ?_ | refine relK (by first | with_reducible assumption | exact List.forall_mem_nil _ | exact relM h2 rfl) ?_ | exact rfl)); done)) (hgo _ ⟨_, rfl⟩)
            case done5 =>
              intro e u8 h8 tk8 hP8 F9 N9
              rw [List.take_of_length_le (by rw [List.length_map, hvc.1]; exact Nat.le_refl _)] at hP8
              try refine wpAny_execs_nil ?_
              k_steps
              exact At.intro (by assumption) (by assumption) (e, ld) (by kqd_sub) (by tb_start) ⟨hP8, lt_in lD (by k_mem), lt_in lD (by k_mem), lt_in lD (by k_mem), lt_in lD (by k_mem)⟩
          · intro e ld m6 h6 tk6 F6 N6 pP9
            clear F5 N5
            (first | (refine hideW ?_; intro gG9; obtain ⟨hve, ld1, ld2, ld3, ld4⟩ := pP9; refine (?_ : wpAny _ _ _ _ _ _); clear gG9) | obtain ⟨hve, ld1, ld2, ld3, ld4⟩ := pP9)
            refine (?_ : wpAny _ _ (execs (_ :: _) _) _ _ _)
            try dsimp only at F6 N6 hve ld1 ld2 ld3 ld4
            have hLw : Dist [lw, L1 + 1 + 1 + 1, L1 + 1 + 1, L1 + 1, 657, d] := dist_top (List.forall_mem_cons.mpr ⟨lw1, List.forall_mem_cons.mpr ⟨Nat.lt_of_succ_lt lw1, List.forall_mem_cons.mpr ⟨Nat.lt_of_succ_lt (Nat.lt_of_succ_lt lw1), List.forall_mem_cons.mpr ⟨lw3, List.forall_mem_cons.mpr ⟨lw2, List.forall_mem_nil _⟩⟩⟩⟩⟩) hB
            have hLo : Dist [ld, lw, L1 + 1 + 1 + 1, L1 + 1 + 1, L1 + 1, 657, d] := dist_top (List.forall_mem_cons.mpr ⟨ld1, List.forall_mem_cons.mpr ⟨ld2, List.forall_mem_cons.mpr ⟨Nat.lt_of_succ_lt ld2, List.forall_mem_cons.mpr ⟨Nat.lt_of_succ_lt (Nat.lt_of_succ_lt ld2), List.forall_mem_cons.mpr ⟨ld4, List.forall_mem_cons.mpr ⟨ld3, List.forall_mem_nil _⟩⟩⟩⟩⟩⟩) hLw
            (first | (refine hideW ?_; intro gG9; obtain ⟨ro1, ro2, ro3, ro4, ro5, ro6, ro7⟩ := rowOk.out (olds_ok r hr); refine (?_ : wpAny _ _ _ _ _ _); clear gG9) | obtain ⟨ro1, ro2, ro3, ro4, ro5, ro6, ro7⟩ := rowOk.out (olds_ok r hr))
            have rl := olds_len r hr
            (first | (refine hideW ?_; intro gG9; obtain ⟨qo1, qo2, qo3, qo4, qo5, qo6, qo7⟩ := rowOk.out (news_ok q hq).1; refine (?_ : wpAny _ _ _ _ _ _); clear gG9) | obtain ⟨qo1, qo2, qo3, qo4, qo5, qo6, qo7⟩ := rowOk.out (news_ok q hq).1)
            have ql := (news_ok q hq).2
            have rln : r.row.length = r.b.length := by
              show r.row.cps.size = r.b.length
              rw [← Array.length_toList, ro2]
            have qln : q.row.length = q.b.length := by
              show q.row.cps.size = q.b.length
              rw [← Array.length_toList, qo2]
            have sm1 : ∀ x, some x ∈ c.os → PyData.strOk x = true := fun x hx => small_ok fun z hz => signs_small z ((hxc x hx).2 z hz)
            have sm2 : ∀ x, some x ∈ c.os.map (Option.map (mapT (chF (r.b.zip q.b)))) → PyData.strOk x = true ∧ x.length ≤ 6 := fun x hx => small_map hr hq hxc x hx
            with_reducible refine cut4 3 g1 L1 s (fun (cL : Addr) (oL : Obj) (vL : Array Value) (tL : Tok) => [(Str.ofString "old", .str r.old tr), (Str.ofString "words", .ref lw), (Str.ofString "due", .ref ld)]) (fun cL oL vL tL => [(657, lamTab cL), (cL, oL), (ld, listOf e.1.toArray e.2), (d, c.o), (lw, listOf c.vs.toArray c.n), (L1 + 1 + 1 + 1, oN2), (L1 + 1 + 1, oR2), (L1 + 1, oDr)]) (fun cL oL vL tL => LamCode oL vL tL ∧ @LT.lt Nat _ 657 cL ∧ NeAll cL [(ld, listOf e.1.toArray e.2), (d, c.o), (lw, listOf c.vs.toArray c.n), (L1 + 1 + 1 + 1, oN2), (L1 + 1 + 1, oR2), (L1 + 1, oDr)]) ?_ ?_
            ·
              refine (?_ : wpAny _ _ (execs (_ :: _) _) _ _ _)
              k_with "call type:list cons nil" => guard_hyp tg9 : Mine.Tg 73873; (k_dflt (refine' kup_listOf (zs := c.vs) (its2 := c.vs.toArray) ?F ?N ?b (List.toList_toArray) ?_ ?z; (case F => k_asm); (case N => k_asm); (case b => k_mem); (case z => rw [sizeLine_eq, List.toList_toArray]; (exact Nat.le_trans (by with_reducible assumption) (Nat.le_of_ble_eq_true rfl)))); intro D5 c5 h5 F5 N5 l5; (try k_lt l5))
              k_with "call ref" => guard_hyp tg9 : Mine.Tg 73873; ((((with_reducible show wpAny _ _ (call (Value.ref 237) _) _ _ _); (k_dflt (refine useV (by k_asm) (by k_asm) (by k_asm) (by k_asm) (by k_asm) (by first | exact rfl | assumption) (by ktr_room) (by ktr_units) ?_)); intro _ _ _ _ _ _ _ _ _ _ _ _ _)))
              k_with "call ref" => guard_hyp tg9 : Mine.Tg 73873; ((with_reducible show wpAny _ _ (call (Value.ref 688) _) _ _ _); refine Halt.out ?_)
              k_steps
              rename_i Vx dX _ _ _ _ _ _ _ _ _ _ _ _ _ _ _ _ _ _ Io _ _ Vo dO _ _ _ _ _ _ _ _ _ U1 _ _ _ _ _ Jn _ _ Vn dNn _ _ _ _ _ _ _ _ _ U2 _ _ _ U3 _ _ A _ _ _ _ _ _ _ _ _ _ _ _ _
              unfold Halt
              have ho : Chain [657, D5, dX, Vx, Io, dO, Vo, U1, Jn, dNn, Vn, U2, U3, A] := by ((simp only [Chain, and_true]; (repeat' refine And.intro ?_ ?_); all_goals (k_extra "lt")))
              have hS : Dist [A, U3, U2, Vn, dNn, Jn, U1, Vo, dO, Io, Vx, dX, D5, ld, lw, L1 + 1 + 1 + 1, L1 + 1 + 1, L1 + 1, 657, d] := Desc.app_low (hi := [A, U3, U2, Vn, dNn, Jn, U1, Vo, dO, Io, Vx, dX]) (D := D5) (desc_of ho.2) (List.forall_mem_cons.mpr ⟨lt_in l5 (by k_mem), List.forall_mem_cons.mpr ⟨lt_in l5 (by k_mem), List.forall_mem_cons.mpr ⟨lt_in l5 (by k_mem), List.forall_mem_cons.mpr ⟨lt_in l5 (by k_mem), List.forall_mem_cons.mpr ⟨lt_in l5 (by k_mem), List.forall_mem_cons.mpr ⟨lt_in l5 (by k_mem), List.forall_mem_cons.mpr ⟨lt_in l5 (by k_mem), List.forall_mem_nil _⟩⟩⟩⟩⟩⟩⟩) hLo
              (((k_dflt (refine useP (kbchrD w A U1 U2 U3 Vo dO Io Vn dNn Jn Vx dX D5 _ _ _ _ _ _ _ _ _ _ _ _ _ _ _ _ _ _ _ _ _ _ _ _ r.old q.old r.b q.b c.vs c.os ro1 qo1 (by (exact om34 (by k_asm) (by k_asm))) (by (exact Nat.le_trans (by with_reducible assumption) (Nat.le_of_ble_eq_true rfl))) ro4 qo4 ro6 qo6 hvc (by (exact om35 hjw hlc)) (fun x hx => Nat.le_trans (hxc x hx).1 (by decide)) ho) (by k_asm) (by k_asm) (by k_asm) (by k_asm) (by k_asm) (by first | exact rfl | assumption) (by ktr_room) (by ktr_units) (by first | exact True.intro | assumption | exact PySem.W.CodeHd.keeps (by assumption) (Fr.keep (by assumption))) (by k_extra "pkA") (by k_extra "off") ?_)); intro v9 p9 h9 tk9 F9 N9 O9 P9))
              (first | (refine hideW ?_; intro gG9; obtain ⟨J, jn, ys, tl9, zq1, zq2, ⟨cL, oL, vL, tL, zq3, hys, hLam, c657, cD5⟩, hl9⟩ := P9; refine (?_ : wpAny _ _ _ _ _ _); clear gG9; (first | subst zq1 | cases zq1); (first | subst zq2 | cases zq2); (first | subst zq3 | cases zq3)) | obtain ⟨J, jn, ys, tl9, rfl, rfl, ⟨cL, oL, vL, tL, rfl, hys, hLam, c657, cD5⟩, hl9⟩ := P9)
              have dJ := lt_in hl9 memA0
              have cJ := lt_in hl9 memA2
              clear hl9
              dsimp only [List.cons_append, List.nil_append] at N9
              have qJ := off_all O9
              simp +zetaDelta only [OffAll, NeAll, and_true] at qJ
              k_with "compareOp NotEq ref ref" => guard_hyp tg9 : Mine.Tg 73873; refine Halt.out ?_
              k_steps
              unfold Halt
              dsimp only
              refine neS (fun x hx => (sm2 x hx).1) (by k_asm) (by k_mem) (by k_mem) hys hve (by ke_room) ?_
              k_steps
              unfold Halt
              dsimp only
              refine neS sm1 (by k_asm) (by k_mem) (by k_mem) hvc hvc (by ke_room) ?_
              k_steps
              exact At.intro (by assumption) (by assumption) (cL, oL, vL, tL) (by kqd_sub) (by tb_start) ⟨hLam, c657, (off_all O9).2.2.2.1⟩
            · intro cL oL vL tL m7 h7 tk7 F7 N7 pP9
              clear F6 N6
              (first | (refine hideW ?_; intro gG9; obtain ⟨hLam, c657, cNe⟩ := pP9; refine (?_ : wpAny _ _ _ _ _ _); clear gG9) | obtain ⟨hLam, c657, cNe⟩ := pP9)
              refine (?_ : wpAny _ _ (execs (_ :: _) _) _ _ _)
              try dsimp only at F7 N7 hLam c657 cNe
              simp only [NeAll, and_true] at cNe
              with_reducible refine cut1 2 g1 L1 s (fun (x0 : Unit) => [(Str.ofString "old", .str r.old tr)]) (fun x0 => [(657, lamTab cL), (cL, oL), (d, c.o), (L1 + 1 + 1 + 1, oN2), (L1 + 1 + 1, oR2), (L1 + 1, oDr)]) (fun x0 => True) ?_ ?_
              ·
                refine (?_ : wpAny _ _ (execs (_ :: _) _) _ _ _)
                k_with "call ref" => guard_hyp tg9 : Mine.Tg 73873; ((((with_reducible show wpAny _ _ (call (Value.ref 237) _) _ _ _); (k_dflt (refine useV (by k_asm) (by k_asm) (by k_asm) (by k_asm) (by k_asm) (by first | exact rfl | assumption) (by ktr_room) (by ktr_units) ?_)); intro _ _ _ _ _ _ _ _ _ _ _ _ _)))
                k_with "call ref" => guard_hyp tg9 : Mine.Tg 73873; ((with_reducible show wpAny _ _ (call (Value.ref 688) _) _ _ _); refine Halt.out ?_)
                k_with "call builtin:len cons nil" => guard_hyp tg9 : Mine.Tg 73873; (refine len_is rln (by (exact Nat.le_trans (by with_reducible assumption) (Nat.le_of_ble_eq_true rfl))) ?_)
                k_steps
                rename_i Io _ _ Vo dO _ _ _ _ _ _ _ _ _ U1 _ _ _ _ _ Jn _ _ Vn dNn _ _ _ _ _ _ _ _ _ U2 _ _ _ _ Vx dX _ _ _ _ _ _ _ _ _ U3 _ _ A _ _ _ _ _ _ _ _ _ _ _ _ _
                unfold Halt
                have ho : Chain [657, ld, Io, dO, Vo, U1, Jn, dNn, Vn, U2, dX, Vx, U3, A] := by ((simp only [Chain, and_true]; (repeat' refine And.intro ?_ ?_); all_goals (k_extra "lt")))
                have hC : Dist [ld, cL, lw, L1 + 1 + 1 + 1, L1 + 1 + 1, L1 + 1, 657, d] := ⟨List.forall_mem_cons.mpr ⟨Ne.symm cNe.1, hLo.1⟩, (List.forall_mem_cons.mpr ⟨cNe.2.2.1, List.forall_mem_cons.mpr ⟨cNe.2.2.2.1, List.forall_mem_cons.mpr ⟨cNe.2.2.2.2.1, List.forall_mem_cons.mpr ⟨cNe.2.2.2.2.2, List.forall_mem_cons.mpr ⟨Nat.ne_of_gt c657, List.forall_mem_cons.mpr ⟨cNe.2.1, List.forall_mem_nil _⟩⟩⟩⟩⟩⟩), hLw⟩
                have hS : Dist [A, U3, Vx, dX, U2, Vn, dNn, Jn, U1, Vo, dO, Io, ld, cL, lw, L1 + 1 + 1 + 1, L1 + 1 + 1, L1 + 1, 657, d] := Desc.app_low (hi := [A, U3, Vx, dX, U2, Vn, dNn, Jn, U1, Vo, dO]) (D := Io) (desc_of ho.2.2) (List.forall_mem_cons.mpr ⟨by k_extra "lt", List.forall_mem_cons.mpr ⟨by k_extra "lt", List.forall_mem_cons.mpr ⟨by k_extra "lt", List.forall_mem_cons.mpr ⟨by k_extra "lt", List.forall_mem_cons.mpr ⟨by k_extra "lt", List.forall_mem_cons.mpr ⟨by k_extra "lt", List.forall_mem_cons.mpr ⟨by k_extra "lt", List.forall_mem_cons.mpr ⟨by k_extra "lt", List.forall_mem_nil _⟩⟩⟩⟩⟩⟩⟩⟩) hC
                have hc9 : (@LT.lt Nat _ cL Io) ∧ (@LT.lt Nat _ 657 cL) ∧ (@Ne Nat cL ld) := ⟨by k_extra "lt", c657, cNe.1⟩
                have hsl : Txt.slice q.row none (some ((r.b.length : Nat) : Int)) = ⟨(q.b.take r.b.length).toArray⟩ := head_is qo2
                have hsl2 : (Txt.slice q.row none (some ((r.b.length : Nat) : Int))).cps.toList = q.b.take r.b.length := by rw [hsl]
                have hsl3 : (Txt.slice q.row none (some ((r.b.length : Nat) : Int))).length ≤ 20 := by
                  rw [hsl]
                  show (q.b.take r.b.length).toArray.size ≤ 20
                  rw [List.size_toArray, List.length_take]; (exact om36 (by k_asm))
                clear hsl
                (((k_dflt (refine useP (kbchrE w A U1 U2 U3 Vo dO Io Vn dNn Jn Vx dX ld _ _ _ _ _ _ _ _ _ _ _ _ _ _ _ _ _ _ _ _ _ _ _ _ _ (Txt.slice q.row none (some ((r.b.length : Nat) : Int))) r.row (q.b.take r.b.length) r.b e.1 (c.os.map (Option.map (mapT (chF (r.b.zip q.b))))) (by rw [hsl2]; exact (heads r hr q hq).1) (by rw [ro2]; exact ro3) (by rw [List.length_take]; exact Nat.min_le_left _ _) (by (exact Nat.le_trans (by with_reducible assumption) (Nat.le_of_ble_eq_true rfl))) hsl3 (by (exact om37 ro5 rln)) (by rw [hsl2]; exact fun z hz => qo7 z (List.mem_of_mem_take hz)) (by rw [ro2]; exact ro7) hve (by rw [List.length_map]; (exact om35 hjw hlc)) (fun x hx => Nat.le_trans (sm2 x hx).2 (by decide)) cL oL vL tL hLam ho hc9) (by k_asm) (by k_asm) (by k_asm) (by k_asm) (by k_asm) (by first | exact rfl | assumption) (by ktr_room) (by ktr_units) (by first | exact True.intro | assumption | exact PySem.W.CodeHd.keeps (by assumption) (Fr.keep (by assumption))) (by k_extra "pkA") (by k_extra "off") ?_)); intro v9 p9 h9 tk9 F9 N9 O9 P9))
                (first | (refine hideW ?_; intro gG9; obtain ⟨J, jn, ys, tl9, zq1, zq2, ⟨zq3, hys⟩, hl9⟩ := P9; refine (?_ : wpAny _ _ _ _ _ _); clear gG9; (first | subst zq1 | cases zq1); (first | subst zq2 | cases zq2); (first | subst zq3 | cases zq3)) | obtain ⟨J, jn, ys, tl9, rfl, rfl, ⟨rfl, hys⟩, hl9⟩ := P9)
                have dJ := lt_in hl9 memA0
                clear hl9
                rw [back_all hr hq hxc] at hys
                dsimp only [List.cons_append, List.nil_append] at N9
                have qJ := off_all O9
                simp +zetaDelta only [OffAll, NeAll, and_true] at qJ
                k_with "compareOp NotEq ref ref" => guard_hyp tg9 : Mine.Tg 73873; refine Halt.out ?_
                k_steps
                unfold Halt
                dsimp only
                refine neS sm1 (by k_asm) (by k_mem) (by k_mem) hys hvc (by ke_room) ?_
                k_steps
                exact At.intro (by assumption) (by assumption) () (by kqd_sub) (by tb_start) trivial
              · intro _ m8 h8 tk8 F8 N8 _
                clear F7 N7
                refine (?_ : wpAny _ _ (execs (_ :: _) _) _ _ _)
                try dsimp only at F8 N8
                k_with "call ref" => guard_hyp tg9 : Mine.Tg 73873; ((((with_reducible show wpAny _ _ (call (Value.ref 237) _) _ _ _); (k_dflt (refine useV (by k_asm) (by k_asm) (by k_asm) (by k_asm) (by k_asm) (by first | exact rfl | assumption) (by ktr_room) (by ktr_units) ?_)); intro _ _ _ _ _ _ _ _ _ _ _ _ _)))
                k_with "call ref" => guard_hyp tg9 : Mine.Tg 73873; ((with_reducible show wpAny _ _ (call (Value.ref 688) _) _ _ _); refine Halt.out ?_)
                k_with "call builtin:len cons nil" => guard_hyp tg9 : Mine.Tg 73873; (refine len_is rln (by (exact Nat.le_trans (by with_reducible assumption) (Nat.le_of_ble_eq_true rfl))) ?_)
                k_steps
                rename_i Jn _ _ Vn dNn _ _ _ _ _ _ _ _ _ U1 _ _ _ _ _ Io _ _ Vo dO _ _ _ _ _ _ _ _ _ U2 _ _ _ _ _ Ix _ _ Vx dX _ _ _ _ _ _ _ _ _ U3 _ _ A _ _ _ _ _ _ _ _ _ _ _ Io2 _ _ Vo2 dO2 _ _ _ _ _ _ _ _ _ V1 _ _ _ _ _ Jn2 _ _ Vn2 dN2 _ _ _ _ _ _ _ _ _ V2 _ _ _ _ _ Ix2 _ _ Vx2 dX2 _ _ _ _ _ _ _ _ _ V3 _ _ A2 _ _ _ _ _ _ _ _ _ _ _
                unfold Halt
                have hy3 : (661 : Addr) ∉ (envX cn cs L a ccd cl :: outer).filterMap (·.frame) := fun hm => by
                  have := (B1.frames.mem hm).1
                  rw [XB 661 _ (by with_unfolding_all rfl)] at this
                  cases this
                have ho1 : Chain [657, cL, Jn, dNn, Vn, U1, Io, dO, Vo, U2, Ix, dX, Vx, U3, A] := by ((simp only [Chain, and_true]; (repeat' refine And.intro ?_ ?_); all_goals (k_extra "lt")))
                have ho2 : Chain [657, cL, Io2, dO2, Vo2, V1, Jn2, dN2, Vn2, V2, Ix2, dX2, Vx2, V3, A2] := by ((simp only [Chain, and_true]; (repeat' refine And.intro ?_ ?_); all_goals (k_extra "lt")))
                have ho3 : Chain [Jn, dNn, Vn, U1, Io, dO, Vo, U2, Ix, dX, Vx, U3, A, Io2, dO2, Vo2, V1, Jn2, dN2, Vn2, V2, Ix2, dX2, Vx2, V3, A2] := by ((simp only [Chain, and_true]; (repeat' refine And.intro ?_ ?_); all_goals (k_extra "lt")))
                have hC : Dist [cL, L1 + 1 + 1 + 1, L1 + 1 + 1, L1 + 1, 657, d] := ⟨(List.forall_mem_cons.mpr ⟨cNe.2.2.2.1, List.forall_mem_cons.mpr ⟨cNe.2.2.2.2.1, List.forall_mem_cons.mpr ⟨cNe.2.2.2.2.2, List.forall_mem_cons.mpr ⟨Nat.ne_of_gt c657, List.forall_mem_cons.mpr ⟨cNe.2.1, List.forall_mem_nil _⟩⟩⟩⟩⟩), hB⟩
                have hS : Dist [A2, V3, Vx2, dX2, Ix2, V2, Vn2, dN2, Jn2, V1, Vo2, dO2, Io2, A, U3, Vx, dX, Ix, U2, Vo, dO, Io, U1, Vn, dNn, Jn, cL, L1 + 1 + 1 + 1, L1 + 1 + 1, L1 + 1, 657, d] := Desc.app_low (hi := [A2, V3, Vx2, dX2, Ix2, V2, Vn2, dN2, Jn2, V1, Vo2, dO2, Io2, A, U3, Vx, dX, Ix, U2, Vo, dO, Io, U1, Vn, dNn]) (D := Jn) (desc_of ho3) (List.forall_mem_cons.mpr ⟨by k_extra "lt", List.forall_mem_cons.mpr ⟨by k_extra "lt", List.forall_mem_cons.mpr ⟨by k_extra "lt", List.forall_mem_cons.mpr ⟨by k_extra "lt", List.forall_mem_cons.mpr ⟨by k_extra "lt", List.forall_mem_cons.mpr ⟨by k_extra "lt", List.forall_mem_nil _⟩⟩⟩⟩⟩⟩) hC
                have hsl : Txt.slice q.row none (some ((r.b.length : Int) - 1)) = ⟨(q.b.take (r.b.length - 1)).toArray⟩ := by
                  have e : (r.b.length : Int) - 1 = ((r.b.length - 1 : Nat) : Int) := by (exact om38 (by k_asm))
                  rw [e]
                  exact head_is qo2
                have hsl2 : (Txt.slice q.row none (some ((r.b.length : Int) - 1))).cps.toList = q.b.take (r.b.length - 1) := by rw [hsl]
                have hsl3 : (Txt.slice q.row none (some ((r.b.length : Int) - 1))).length ≤ 20 := by
                  rw [hsl]
                  show (q.b.take (r.b.length - 1)).toArray.size ≤ 20
                  rw [List.size_toArray, List.length_take]; (exact om39 (by k_asm))
                clear hsl
                (((k_dflt (refine useT (kbchrS w A U1 U2 U3 Vo dO Io Vn dNn Jn Vx dX Ix _ _ _ _ _ _ _ _ _ _ _ _ _ _ _ _ _ _ _ _ _ _ _ _ _ _ _ r.old (Txt.slice q.row none (some ((r.b.length : Int) - 1))) (Str.ofString "a") r.b (q.b.take (r.b.length - 1)) ro1 (by rw [hsl2]; exact (heads r hr q hq).2) (by rw [List.length_take]; (exact om40 (by k_asm))) (by (exact Nat.le_trans (by with_reducible assumption) (Nat.le_of_ble_eq_true rfl))) ro4 hsl3 ro6 (by rw [hsl2]; exact fun z hz => qo7 z (List.mem_of_mem_take hz)) cL oL vL tL hLam ho1) (by k_asm) (by k_asm) (by k_asm) (by k_asm) (by k_asm) (by assumption) (by assumption) (by assumption) (by first | exact rfl | assumption) (by ktr_room) (by ktr_units) (by first | exact True.intro | assumption | exact PySem.W.CodeHd.keeps (by assumption) (Fr.keep (by assumption))) (by k_extra "pkA") (by k_extra "off") ?_)); intro v9 p9 h9 tk9 g9 T9 F9 N9 O9 P9 B9 X9 Tp9 D9))
                obtain ⟨⟨t9, rfl⟩, rfl⟩ := P9
                dsimp only [List.cons_append, List.nil_append] at N9
                have hy9 := codeHd_turn hy1 T9 hy3
                have TA := T9
                k_steps
                unfold Halt
                (((k_dflt (refine useT (kbchrF w A2 V1 V2 V3 Vo2 dO2 Io2 Vn2 dN2 Jn2 Vx2 dX2 Ix2 _ _ _ _ _ _ _ _ _ _ _ _ _ _ _ _ _ _ _ _ _ _ _ _ _ (Str.ofString "PQRS") (Str.ofString "a") cL oL vL tL hLam ho2) (by k_asm) (by k_asm) (by k_asm) (by k_asm) (by k_asm) (by assumption) (by assumption) (by assumption) (by first | exact rfl | assumption) (by ktr_room) (by ktr_units) (by first | exact True.intro | assumption | exact PySem.W.CodeHd.keeps (by assumption) (Fr.keep (by assumption))) (by k_extra "pkA") (by k_extra "off") ?_)); intro v9 p9 h9 tk9 g9 T9 F9 N9 O9 P9 B9 X9 Tp9 D9))
                obtain ⟨⟨t8, rfl⟩, rfl⟩ := P9
                dsimp only [List.cons_append, List.nil_append] at N9
                k_steps
                exact OutT.intro (TA.trans T9) (by assumption) (by assumption) [(d, c.o), (657, lamTab cL)] (by kqd_sub) ⟨rfl, c.o, _, hDc, rfl⟩

end

section
-- part LawP
/-! plain facts for the law's last part -/
theorem strs_of : ∀ {vs : List Value} {ys : List Str}, OSAre vs (ys.map some) → StrsAre vs ys
  | [], [], _ => .nil
  | [], _ :: _, r => by have := r.1; simp at this
  | _ :: _, [], r => by have := r.1; simp at this
  | v :: vs, y :: ys, r => by
    obtain ⟨x', e, hv⟩ := r.2 0 v rfl
    have ht : OSAre vs (ys.map some) := ⟨by have := r.1; simpa using this, fun i u hu => by have := r.2 (i + 1) u hu; simpa using this⟩
    simp at e
    subst e
    obtain ⟨t, rfl⟩ := hv
    exact .cons y t (strs_of ht)
theorem any_mem (k : Str) (ys : List Str) : ys.any (· == k) = decide (k ∈ ys) := by
  rw [Bool.eq_iff_iff, List.any_eq_true, decide_eq_true_eq]
  constructor
  · rintro ⟨x, hx, e⟩
    rw [← eq_of_beq e]; exact hx
  · exact fun h => ⟨k, h, beq_self_eq_true k⟩
section
variable {prog : Program} {w : World} {A : Around} {E : Value → Shared → Prop} {s : Shared} {h₀ : Heap} {L l : Addr} {news : List (Addr × Obj)} {vs : List Value} {ys : List Str} {k : Str} {n : Nat} {t : Tok} {Q : Value → Shared → Prop}
theorem in_strs (N : News h₀ L s.heap news) (hm : (l, listOf vs.toArray n) ∈ news) (hv : OSAre vs (ys.map some)) (b : Bool) (hb : decide (k ∈ ys) = b) (h : Q (.bool b) s) : wpAny (model prog w) A (compareOp .In (.str k t) (.ref l)) Q E s :=
  in_list_strs ⟨_, (N _ hm).1, rfl, n, rfl⟩ (strs_of hv) (by rw [any_mem, hb]; exact h)
theorem notin_strs (N : News h₀ L s.heap news) (hm : (l, listOf vs.toArray n) ∈ news) (hv : OSAre vs (ys.map some)) (b : Bool) (hb : decide (k ∈ ys) = b) (h : Q (.bool (!b)) s) : wpAny (model prog w) A (compareOp .NotIn (.str k t) (.ref l)) Q E s :=
  notin_list_strs ⟨_, (N _ hm).1, rfl, n, rfl⟩ (strs_of hv) (by rw [any_mem, hb]; exact h)
theorem last_at {value slice : PySem.Expr} {v : Value} {u : Tok} (N : News h₀ L s.heap news) (hm : (l, listOf (vs ++ [v]).toArray n) ∈ news) (h : Q v s)
    (hs : subscripted slice false (.ref l) (.int (-1) u) = operate [.ref l, .int (-1) u] (getItem (.ref l) (.int (-1) u)) := by with_unfolding_all rfl) : wpAny (model prog w) A (subscriptTail value slice (.ref l) (.int (-1) u)) Q E s := by
  refine kde_neg (vs := vs ++ [v]) (j := vs.length) ⟨_, (N _ hm).1, rfl, n, rfl⟩ (by decide) (by decide) ?_ (by simp) h hs
  unfold seqIndex?
  simp only [List.length_append, List.length_cons, List.length_nil]
  have h1 : ((-1 : Int) < 0) := by decide
  simp only [h1, if_true]
  have h2 : (-1 : Int) + ((vs.length + (0 + 1) : Nat) : Int) = (vs.length : Int) := by (exact om210)
  rw [h2]
  simp
  (exact om211)
theorem upto_at {m : Str → Option Value} {value slice : PySem.Expr} {j : Nat} {u : Tok} (F : Fr h₀ L s.heap m) (N : News h₀ L s.heap news) (hm : (l, listOf vs.toArray n) ∈ news) (hz : vs.length ≤ 1000)
    (h : ∀ D h', Fr h₀ L h' m → News h₀ L h' ((D, listOf (vs.take j).toArray 0) :: news) → (∀ p ∈ news, p.1 < D) → Q (.ref D) { s with heap := h' })
    (hs : subscripted slice false (.ref l) (.ref s.heap.objs.size) = operate [.ref s.heap.objs.size, .ref l] (getItem (.ref l) (.ref s.heap.objs.size)) := by with_unfolding_all rfl)
    (ht : ∀ r, letTemporaryGo value (.ref l) r = pure () := by intro _; with_unfolding_all rfl) :
    wpAny (model prog w) A (subscriptTail value slice (.ref l) (.ref s.heap.objs.size)) Q E { s with heap := s.heap.push { cls := .type "slice", data := .fields #[.none, .int (j : Int) u, .none] } } := by
  have e : sliceBounds none (some (j : Int)) none vs.toArray.size = (((0 : Nat) : Int), ((min j vs.toArray.size : Nat) : Int), 1) := by
    simp only [sliceBounds, Option.getD_none, show (1 : Int) > 0 by decide, if_true, if_neg (show ¬ ((j : Int) < 0) by (exact om55))]
    congr 1
    congr 1
    (exact om212)
  have e2 : slicePick vs.toArray none (some (j : Int)) none = (vs.take j).toArray := by
    rw [kmk_pick_nat _ e]
    show ((vs.drop 0).take (min j vs.toArray.size - 0)).toArray = _
    rw [List.drop_zero, Nat.sub_zero, List.size_toArray, kmk_take_min]
  refine kmk_slice F N ⟨_, (N _ hm).1, rfl, n, rfl⟩ .none (.int _ _) (fun D h' F' N' l1 => h D h' F' ?_ l1) hs ht (by rw [sizeLine_eq, List.size_toArray]; (exact Nat.le_trans (by with_reducible assumption) (Nat.le_of_ble_eq_true rfl)))
  rw [e2] at N'
  exact N'
end
/-- a small text -/
noncomputable def Sm (k : Nat) (x : Str) : Prop := x.length ≤ k ∧ ∀ c ∈ x.cps.toList, c < 128
theorem len_cat (x y : Str) : (x ++ y).length = x.length + y.length := by show (x.cps ++ y.cps).size = _; rw [Array.size_append]; rfl
theorem Sm.cat {j k : Nat} {x y : Str} (hx : Sm j x) (hy : Sm k y) : Sm (j + k) (x ++ y) := by
  refine ⟨by rw [len_cat]; have := hx.1; have := hy.1; (exact om213 (by k_asm) (by k_asm)), fun c hc => ?_⟩
  rw [cat_list] at hc
  exact (List.mem_append.mp hc).elim (hx.2 c) (hy.2 c)
theorem numT_sm : ∀ k : Nat, k < 24 → (numT k).length ≤ 2 ∧ ∀ c ∈ (numT k).cps.toList, c < 128 := by decide +kernel
theorem cand_sm {x sep : Str} {k : Nat} (hx : Sm 3 x) (hs : Sm 1 sep) (hk : k < 24) : Sm 6 (cand x sep k) := (hx.cat hs).cat (numT_sm k hk)
theorem Sm.mono {j k : Nat} {x : Str} (h : Sm j x) (hk : j ≤ k) : Sm k x := ⟨Nat.le_trans h.1 hk, h.2⟩
theorem MkU.small {ns : List Str} {sep : Str} {j : Nat} {fr fo : List Str} (h : MkU ns sep j fr fo) (hl : ns.length ≤ 7) (hj : j ≤ 7) (hn : ∀ x ∈ ns, Sm 3 x) (hs : Sm 1 sep) : ∀ x ∈ fo, Sm 6 x := by
  induction h with
  | zero => exact fun _ hx => nomatch hx
  | first _ hx _ ih =>
    intro y hy
    rcases List.mem_append.mp hy with hy | hy
    · exact ih (by (exact om214 (by k_asm))) y hy
    · rw [List.mem_singleton.mp hy]; exact (hn _ (List.mem_of_getElem? hx)).mono (by decide)
  | @again j fr fo x k h0 hx _ h1 _ hlt ih =>
    intro y hy
    rcases List.mem_append.mp hy with hy | hy
    · exact ih (by (exact om214 (by k_asm))) y hy
    · rw [List.mem_singleton.mp hy]
      have := h0.len.1
      have hk := cands_le (l := ns ++ fr) (by rw [List.length_append]; (exact om215 (by k_asm) (by k_asm) (by k_asm))) hlt
      rw [List.length_append] at hk
      exact cand_sm (hn _ (List.mem_of_getElem? hx)) hs (by (exact om216 hl hj this hk))
theorem OSAre.upto {vs : List Value} {ys : List Str} (h : OSAre vs (ys.map some)) (j : Nat) : OSAre (vs.take j) ((ys.take j).map some) := by
  refine ⟨by rw [List.length_map, List.length_take, List.length_take, h.1, List.length_map], fun i v hv => ?_⟩
  rw [List.getElem?_take] at hv
  by_cases hi : i < j
  · rw [if_pos hi] at hv
    obtain ⟨o, ho, hov⟩ := h.2 i v hv
    refine ⟨o, ?_, hov⟩
    rw [List.map_take, List.getElem?_take, if_pos hi]
    exact ho
  · rw [if_neg hi] at hv; cases hv

theorem nodup_take {l : List Str} (h : l.Nodup) {i : Nat} {x : Str} (hx : l[i]? = some x) : x ∉ l.take i := by
  obtain ⟨hi, rfl⟩ := List.getElem?_eq_some_iff.mp hx
  intro hm
  obtain ⟨j, hj, e⟩ := List.mem_take_iff_getElem.mp hm
  exact List.pairwise_iff_getElem.mp (List.nodup_iff_pairwise_ne.mp h) j i (by (exact om160 (by k_asm))) hi (by (exact om161 (by k_asm))) e
theorem OSAre.str_at {vs : List Value} {ys : List Str} (h : OSAre vs (ys.map some)) {i : Nat} (hi : i < ys.length) : ∃ x t, ys[i]? = some x ∧ vs[i]? = some (.str x t) := by
  have hl : i < vs.length := by rw [h.1, List.length_map]; exact hi
  obtain ⟨o, ho, hov⟩ := h.2 i vs[i] (List.getElem?_eq_getElem hl)
  rw [List.getElem?_map, List.getElem?_eq_getElem hi] at ho
  cases ho
  obtain ⟨t, e⟩ := hov
  exact ⟨ys[i], t, List.getElem?_eq_getElem hi, by rw [List.getElem?_eq_getElem hl, e]⟩

end

section
-- part CompN
section
variable {prog : Program} {w : World} {A : Around} {s : Shared} {h₀ : Heap} {L : Addr} {m : Str → Option Value} {env : Env}
/-- a comprehension whose test never holds -/
theorem compT_none {ct elt : PySem.Expr} {x : Str} {scope : Scope} {cl : List (Str × Addr)} {S : List (Addr × Obj) → Prop} {Pv : Nat → Value → Prop} {Fin : List Value → List (Addr × Obj) → Prop} {n : Nat} {news : List (Addr × Obj)}
    (turn : ∀ (i : Nat) (v : Value) I oI C oC D m₂ h tk (E' : Value → Shared → Prop), i < n → Pv i v → LCg.NsObj oC m₂ → m₂ x = some v → Fr h₀ L h m →
      News h₀ L h ((I, oI) :: (C, oC) :: (D, LCg.lst []) :: news) → LCg.Off3 I C D news → ((@Ne Nat I C) ∧ (@Ne Nat I D) ∧ (@Ne Nat C D)) →
      wpAny (model prog w) A (isTrue ct (compEnvC scope cl C env) (eval ct (compEnvC scope cl C env))) (fun b s' => b = false ∧ LCg.CompEnd h₀ L m { s with heap := h, toks := tk } I oI C oC D (LCg.lst []) S (fun _ news' => news' = news) Value.none s') E' { s with heap := h, toks := tk })
    (fin : Fin [] news) : LCt.CompRestT prog w A h₀ L m env ct elt x scope cl s S Pv Fin n 0 [] news := by
  have key : ∀ (j i : Nat), i + j = n → LCt.CompRestT prog w A h₀ L m env ct elt x scope cl s S Pv Fin j i [] news := by
    intro j
    induction j with
    | zero => exact fun _ _ => LCt.CompRestT.zero fin
    | succ j ih =>
      intro i hi
      refine LCt.CompRestT.succ ?_
      intro v I oI C oC D m₂ h tk E' hv hC hx F N off ne
      refine wpAny_mono (turn i v I oI C oC D m₂ h tk E' (by (exact om196 (by k_asm))) hv hC hx F N off ne) (fun b s₂ hq => ?_) fun _ _ e => e
      obtain ⟨rfl, h', tk', nw, e, F', N', off', hS, rfl⟩ := hq
      simp only [Bool.false_eq_true, if_false]
      exact ⟨h', tk', _, e, F', N', off', hS, ih (i + 1) (by (exact om197 (by k_asm)))⟩
  exact key n 0 (by (exact Nat.zero_add _))
end

end

section
-- part Law
/-- the names drawn so far -/
noncomputable def NameV (v : Value) : Prop := TextV 3 v ∨ v = .none
noncomputable def NamesOk (i : Nat) (ys : List Value) (o : Obj) : Prop := DrumO o ∧ ∃ os : List (Option Str), OSAre ys os ∧ os.length = i ∧ ∀ x, some x ∈ os → x.length ≤ 3 ∧ ∀ c ∈ x.cps.toList, c < 128
theorem NamesOk.snoc {i : Nat} {ys : List Value} {o o' : Obj} {v : Value} (h : NamesOk i ys o) (hD : DrumO o') (hv : NameV v) : NamesOk (i + 1) (ys ++ [v]) o' := by
  obtain ⟨_, os, h1, h2, h3⟩ := h
  rcases hv with ⟨x, t, rfl, hx⟩ | rfl
  · refine ⟨hD, os ++ [some x], OSAre.snoc h1 ⟨t, rfl⟩, by simp [h2], fun y hy => ?_⟩
    rcases List.mem_append.mp hy with hy | hy
    · exact h3 y hy
    · cases List.mem_singleton.mp hy; exact hx
  · refine ⟨hD, os ++ [none], OSAre.snoc h1 rfl, by simp [h2], fun y hy => ?_⟩
    rcases List.mem_append.mp hy with hy | hy
    · exact h3 y hy
    · cases List.mem_singleton.mp hy
/-- what the law has told up to a name: due and taken -/
structure DU where
  vs : List Value
  n : Nat
  ws : List Value
  k : Nat
  fr : List Str
  fo : List Str
noncomputable def DUOk (BN : List Str) (sp : Str) (j : Nat) (c : DU) : Prop := OSAre c.vs (c.fo.map some) ∧ OSAre c.ws ((BN ++ c.fr).map some) ∧ MkU BN sp j c.fr c.fo
set_option maxRecDepth 100000 in
set_option maxHeartbeats 8000000 in
theorem law_holds : PySem.Challenge.rw_pq1336_01.Holds := Mine.hd (by
  k_go0
  all_goals try k_fold
  rename_i w s₀ s₁ mg mb G Y fa oF pm cd doc ho hcd hg X V T0 Bt TE TW ns hs hlay0 hL0 hr0 hl2 w5 w6 sc vs w7 hL ra w1 r0 hI hrr hlen hc2 hDf h1 tk1 oT oDr dT dDr X0 X1 T1 B1 F1 N1 lo1
  have hy1 : CodeHd (ghostOf s₁.heap [(661, 657)]) 661 657 := codeHd
  clear codeHd
  generalize ghostOf s₁.heap [(661, 657)] = g0 at *
  have hl1 : h1.IsList sc vs.toArray := by
    obtain ⟨o, e, r⟩ := lifted
    exact ⟨o, F1.keep _ _ e, r⟩
  have hnl : ns.length ≤ 63 := by (exact om217 (by k_asm))
  have hT1 : oT.data = Data.cell none := dT
  have hDr1 : oDr.data = Data.cell none := dDr
  clear Y ho hcd X V T0 Bt TE TW hs hlay0 hL0 hr0 hl2 hL ra w1 r0 hrr hc2 hDf X0 G hT8 hT9 dT dDr lifted
  generalize s₁.heap.objs.size = L0 at *
  have f657 : @LT.lt Nat _ 657 L0 := lt_in lo1 (by k_mem)
  have D1 : KtsDicts (([] : List Env).filterMap (·.frame)) g0 := fun _ hb => nomatch hb
  (try clear tg9); have tg9 : Mine.Tg 52976 := tgI 52976
  with_reducible refine cut4 2 g0 L0 s₁ (fun (o3 : Obj) (D : Addr) (oDr2 : Obj) (ps : Array Value) => []) (fun o3 D oDr2 ps => [(D, o3), (L0 + 1 + 1, oT), (L0 + 1, oDr2), (657, tabObj ps)]) (fun o3 D oDr2 ps => DrumO o3 ∧ oDr2.data = Data.cell (some (.ref D)) ∧ (@Ne Nat D (L0 + 1 + 1)) ∧ (@Ne Nat D (L0 + 1)) ∧ @Ne Nat D 657) ?_ ?_
  ·
    dsimp only [List.take]
    k_with "call ref" => guard_hyp tg9 : Mine.Tg 52976; ((with_reducible show wpAny _ _ (call (Value.ref 714) _) _ _ _); refine Halt.out ?_)
    k_with "call ref" => guard_hyp tg9 : Mine.Tg 52976; ((with_reducible show wpAny _ _ (call (Value.ref 674) _) _ _ _); refine Halt.out ?_)
    k_with "call ref" => guard_hyp tg9 : Mine.Tg 52976; ((with_reducible show wpAny _ _ (call (Value.ref 719) _) _ _ _); refine Halt.out ?_)
    k_steps
    unfold Halt
    (((k_dflt (refine useP (beats_ok w sc vs ns hI hnl) (by k_asm) (by k_asm) (by k_asm) (by k_asm) (by k_asm) (by first | exact rfl | assumption) (by ktr_room) (by ktr_units) (by first | exact True.intro | assumption | exact PySem.W.CodeHd.keeps (by assumption) (Fr.keep (by assumption))) (by k_extra "pkA") (by k_extra "off") ?_)); intro v9 p9 h9 tk9 F9 N9 O9 P9))
    obtain ⟨D, ws, ms, nD, rfl, rfl, hms, hml⟩ := P9
    dsimp only [List.cons_append, List.nil_append] at N9
    have qD := off_all O9
    simp +zetaDelta only [OffAll, NeAll, and_true] at qD
    have hD657 : @Ne Nat D 657 := qD.2.2
    have hDa := qD.1
    have hDb := qD.2.1
    have hD0 : DrumO (listOf ws.toArray nD) := ⟨ws, ms, nD, rfl, hms, hml⟩
    k_steps
    rename_i oDr2 F2 N2 dDr2 _ _
    unfold Halt
    (try dsimp only [List.cons_append, List.nil_append] at N2)
    (((k_dflt (refine useT (numbers_ok w D _ hD0) (by k_asm) (by k_asm) (by k_asm) (by k_asm) (by k_asm) (by assumption) (by assumption) (by assumption) (by first | exact rfl | assumption) (by ktr_room) (by ktr_units) (by first | exact True.intro | assumption | exact PySem.W.CodeHd.keeps (by assumption) (Fr.keep (by assumption))) (by k_extra "pkA") (by k_extra "off") ?_)); intro v9 p9 h9 tk9 g9 T9 F9 N9 O9 P9 B9 X9 Tp9 D9))
    obtain ⟨rfl, o2, hD2, rfl⟩ := P9
    dsimp only [List.cons_append, List.nil_append] at N9
    replace F9 := kts_nil T9 F9
    replace N9 := kts_nilN T9 N9
    clear T9 B9 X9 Tp9 D9
    k_steps
    unfold Halt
    (((k_dflt (refine useT (exchanged_ok w D _ hD2 hD657) (by k_asm) (by k_asm) (by k_asm) (by k_asm) (by k_asm) (by assumption) (by assumption) (by assumption) (by first | exact rfl | assumption) (by ktr_room) (by ktr_units) (by first | exact True.intro | assumption | exact PySem.W.CodeHd.keeps (by assumption) (Fr.keep (by assumption))) (by k_extra "pkA") (by k_extra "off") ?_)); intro v9 p9 h9 tk9 g9 T9 F9 N9 O9 P9 B9 X9 Tp9 D9))
    obtain ⟨rfl, o3, ps, hD3, rfl⟩ := P9
    dsimp only [List.cons_append, List.nil_append] at N9
    replace F9 := kts_nil T9 F9
    replace N9 := kts_nilN T9 N9
    clear T9 B9 X9 Tp9 D9 F2 N2
    k_steps
    exact At.intro (by assumption) (by assumption) (o3, D, oDr2, ps) (by kqd_sub) (List.forall_mem_nil _) ⟨hD3, dDr2, qD.1, qD.2.1, hD657⟩
  · intro o3 D oDr2 ps m3 h3 tk3 F3 N3 pP9
    clear F1 N1 hl1
    obtain ⟨hD3, dDr2, hne1, hne2, hne3⟩ := pP9
    dsimp only [List.drop]
    try dsimp only at F3 N3 hD3 dDr2 hne1 hne2 hne3
    with_reducible refine cut6 2 g0 L0 s₁ (fun (vs3 : List Value) (n3 : Nat) (ln : Addr) (os : List (Option Str)) (sp : Str) (tsp : Tok) => [(Str.ofString "names", .ref ln), (Str.ofString "sep", .str sp tsp)]) (fun vs3 n3 ln os sp tsp => [(ln, listOf vs3.toArray n3), (L0 + 1 + 1, oT), (657, tabObj ps)]) (fun vs3 n3 ln os sp tsp => OSAre vs3 os ∧ os.length ≤ 7 ∧ (∀ x, some x ∈ os → x.length ≤ 3 ∧ ∀ z ∈ x.cps.toList, z < 128) ∧ (sp.length ≤ 1 ∧ ∀ z ∈ sp.cps.toList, z < 128) ∧ (@Ne Nat (L0 + 1 + 1) ln) ∧ @Ne Nat 657 ln) ?_ ?_
    ·
      dsimp only [List.take]
      k_with "call ref" => guard_hyp tg9 : Mine.Tg 52976; ((with_reducible show wpAny _ _ (call (Value.ref 681) _) _ _ _); (k_dflt (refine useB (d := D) (by assumption) (by decide) (by decide) (by k_asm) (by k_asm) (by k_asm) (by k_asm) (by k_asm) (by first | exact rfl | assumption) (by ktr_room) (by ktr_units) (by k_extra "pkA") (by k_extra "off") ?_)); intro j9 t9 o9 h9 tk9 F9 N9 hj9 hD9)
      k_with "exec Assign cons ListComp" => guard_hyp tg9 : Mine.Tg 52976; refine Halt.out ?_
      k_with "subscriptTail" => guard_hyp tg9 : Mine.Tg 52976; ((with_reducible show wpAny _ _ (subscriptTail _ _ (Value.ref _) (Value.int _ _)) _ _ _); refine Halt.out ?_)
      k_steps
      unfold Halt
      ((k_dflt (refine LCg.Assign_ListComp_U (F₀ := by k_asm) (by rfl) (by with_unfolding_all rfl) (by with_unfolding_all rfl) (by decide) (by rfl) (by decide) (by rfl) (by rfl) (by rfl) ?_)))
      k_with "CompSrc" => guard_hyp tg9 : Mine.Tg 52976; refine Halt.out ?_
      k_steps
      rename_i hr7 F7 N7 _
      unfold Halt
      have hj7 : j9 < 8 := hj9
      refine LCg.CompSrc.range (news := [(D, o9), (L0 + 1 + 1, oT), (L0 + 1, oDr2), (657, tabObj ps)]) (by rfl) F7 (news_sub N7 (by kqd_sub)) hr7 (small_one (by (exact om2)) (by (exact om3)) (by (exact om4)) (by (exact om218 (by k_asm)))) (rangeSize_nat _ _) (by rw [sizeLine_eq]; (exact om219 (by k_asm))) ?_
      intro g2
      refine comp_inv (σ := Obj) (fun o => [(D, o), (L0 + 1 + 1, oT), (L0 + 1, oDr2), (657, tabObj ps)]) NamesOk o9 ⟨hD9, [], OSAre.nil, rfl, fun _ h => nomatch h⟩ ?turn2 ?fin2
      case turn2 =>
        intro o2 i v ys I oI C oC D2 m₂ h11 tk11 E' hi hv hP hC hx2 F10 N10 off10 ne10
        have hDo := hP.1
        obtain ⟨q1, q2, q3⟩ := off10.1
        try dsimp only at q1 q2 q3
        k_with "CompEnd" => guard_hyp tg9 : Mine.Tg 52976; refine Halt.out ?_
        k_steps
        unfold Halt
        refine menu_at NameV (by k_asm) (by k_mem) (by exact hj9) (by show 7 < 1000000; decide) (by (repeat (first | exact List.forall_mem_nil _ | (refine List.forall_mem_cons.mpr ⟨?_, ?_⟩; (focus (first | exact .inr rfl | exact .inl ⟨_, _, rfl, by decide, by decide⟩)))))) ?_
        intro v3 hv3
        k_steps
        unfold Halt
        exact LCg.CompEnd.intro (by assumption) (by assumption) [(D, o9), (L0 + 1 + 1, oT), (L0 + 1, oDr2), (657, tabObj ps)] (by kqd_sub) (off3_addr rfl off10) trivial ⟨o9, rfl, hP.snoc hD9 hv3⟩
      case fin2 =>
        intro ys o3 hP
        unfold LCg.FinA
        intro D3 h3 tk3 F10 N10 o10
        obtain ⟨hD3, os, hs1, hs2, hs3⟩ := hP
        have q4 := o10.1
        have q5 := o10.2.1
        have q6 := o10.2.2.1
        have q7 := o10.2.2.2.1
        try dsimp only at q4 q5 q6 q7
        have hol : os.length ≤ 7 := by (exact om220 (by k_asm) (by k_asm))
        k_steps
        unfold Halt
        refine menu_at (TextV 1) (by k_asm) (by k_mem) (by exact hj9) (by show 3 < 1000000; decide) (by ((repeat (first | exact List.forall_mem_nil _ | (refine List.forall_mem_cons.mpr ⟨?_, ?_⟩; (focus (first | exact ⟨_, _, rfl, by decide⟩ | exact ⟨_, _, rfl, by decide, by decide⟩ | exact ⟨_, _, rfl, by omega⟩))))))) ?_
        rintro _ ⟨sp, tsp, rfl, hsl, hss⟩
        k_steps
        exact At.intro (by assumption) (by assumption) (ys, _, D3, os, sp, tsp) (by kqd_sub) (by tb_start) ⟨hs1, hol, hs3, ⟨hsl, hss⟩, q5, q7⟩
    · intro vs3 n3 ln os sp tsp m4 h4 tk4 F4 N4 pP9
      clear F3 N3
      obtain ⟨hv4, hl4, hs4, ⟨hsl, hss⟩, hne4, hnl4⟩ := pP9
      dsimp only [List.drop]
      try dsimp only at F4 N4 hv4 hl4 hs4 hsl hss hne4 hnl4
      have hvl : vs3.length ≤ 7 := by rw [hv4.1]; exact hl4
      with_reducible refine cut6 1 g0 L0 s₁ (fun (ys : List Value) (jn : Nat) (J : Addr) (oT2 : Obj) (fr : List Str) (fo : List Str) => [(Str.ofString "names", .ref ln), (Str.ofString "sep", .str sp tsp)]) (fun ys jn J oT2 fr fo => [(J, listOf ys.toArray jn), (ln, listOf vs3.toArray n3), (L0 + 1 + 1, oT2), (657, tabObj ps)]) (fun ys jn J oT2 fr fo => oT2.data = Data.cell (some (.ref J)) ∧ OSAre ys (fo.map some) ∧ MkU (os.map fun o => o.getD (Str.ofString "NA")) sp os.length fr fo ∧ (@Ne Nat (L0 + 1 + 1) J) ∧ (@LT.lt Nat _ ln J) ∧ @Ne Nat 657 J) ?_ ?_
      ·
        dsimp only [List.take]
        k_with "call ref" => guard_hyp tg9 : Mine.Tg 52976; ((((with_reducible show wpAny _ _ (call (Value.ref 237) _) _ _ _); (k_dflt (refine useV (by k_asm) (by k_asm) (by k_asm) (by k_asm) (by k_asm) (by first | exact rfl | assumption) (by ktr_room) (by ktr_units) ?_)); intro _ _ _ _ _ _ _ _ _ _ _ _ _)))
        k_with "call ref" => guard_hyp tg9 : Mine.Tg 52976; ((with_reducible show wpAny _ _ (call (Value.ref 688) _) _ _ _); refine Halt.out ?_)
        k_steps
        rename_i Vx dX _ _ _ _ _ _ _ _ _ U1 _ _ _ _ _ Is _ _ Vs dS _ _ _ _ _ _ _ _ _ U2 _ _ A _ _ _ _
        unfold Halt
        have ho : Chain [ln, dX, Vx, U1, Is, dS, Vs, U2, A] := by ((simp only [Chain, and_true]; (repeat' refine And.intro ?_ ?_); all_goals (k_extra "lt")))
        have hS : Dist [A, U2, Vs, dS, Is, U1, Vx, dX, ln, L0 + 1 + 1, 657] := Desc.app_low (hi := [A, U2, Vs, dS, Is, U1, Vx]) (D := dX) (desc_of ho.2) (List.forall_mem_cons.mpr ⟨by k_extra "lt", List.forall_mem_cons.mpr ⟨by k_extra "lt", List.forall_mem_cons.mpr ⟨by k_extra "lt", List.forall_mem_nil _⟩⟩⟩) ⟨(List.forall_mem_cons.mpr ⟨by k_extra "ne", List.forall_mem_cons.mpr ⟨by k_extra "ne", List.forall_mem_nil _⟩⟩), (List.forall_mem_cons.mpr ⟨gt_ne (lt_up (lt_up f657)), List.forall_mem_nil _⟩), List.forall_mem_nil _, trivial⟩
        (((k_dflt (refine useP (kbuniqG w A U1 U2 Vx dX ln Vs dS Is _ _ _ _ _ _ _ _ _ _ _ _ _ _ _ _ _ sp vs3 os hv4 hl4 (fun x hx => Nat.le_trans (hs4 x hx).1 (by decide)) (by (exact Nat.le_trans (by with_reducible assumption) (Nat.le_of_ble_eq_true rfl))) ho) (by k_asm) (by k_asm) (by k_asm) (by k_asm) (by k_asm) (by first | exact rfl | assumption) (by ktr_room) (by ktr_units) (by first | exact True.intro | assumption | exact PySem.W.CodeHd.keeps (by assumption) (Fr.keep (by assumption))) (by k_extra "pkA") (by k_extra "off") ?_)); intro v9 p9 h9 tk9 F9 N9 O9 P9))
        obtain ⟨J, jn, ys, tl9, rfl, rfl, ⟨fr, fo, rfl, hys, hmk⟩, hl9⟩ := P9
        have hJ := lt_in hl9 memA0
        clear hl9
        dsimp only [List.cons_append, List.nil_append] at N9
        have qJ := off_all O9
        simp +zetaDelta only [OffAll, NeAll, and_true] at qJ
        have hJa := qJ.1.1
        k_steps
        rename_i oT2 _ _ dT2
        exact At.intro (by assumption) (by assumption) (ys, jn, J, oT2, fr, fo) (by kqd_sub) (by tb_start) ⟨dT2, hys, hmk, qJ.1.1.symm, hJ, qJ.1.2.symm⟩
      · intro ys jn J oT2 fr fo m5 h5 tk5 F5 N5 pP9
        clear F4 N4
        obtain ⟨dT2, hys, hmk, hneJ, hJ, hnJ⟩ := pP9
        dsimp only [List.drop]
        try dsimp only at F5 N5 dT2 hys hmk hneJ hJ hnJ
        with_reducible refine cut3 1 g0 L0 s₁ (fun (bs : List Value) (bn : Nat) (lb : Addr) => [(Str.ofString "sep", .str sp tsp), (Str.ofString "bare", .ref lb)]) (fun bs bn lb => [(lb, listOf bs.toArray bn), (J, listOf ys.toArray jn), (L0 + 1 + 1, oT2), (657, tabObj ps)]) (fun bs bn lb => OSAre bs ((os.map fun o => o.getD (Str.ofString "NA")).map some) ∧ (@Ne Nat (L0 + 1 + 1) lb) ∧ (@Ne Nat J lb) ∧ @Ne Nat 657 lb) ?_ ?_
        ·
          dsimp only [List.take]
          k_with "exec Assign cons ListComp" => guard_hyp tg9 : Mine.Tg 52976; refine Halt.out ?_
          k_steps
          unfold Halt
          ((k_dflt (refine LCg.Assign_ListComp_U (F₀ := by k_asm) (by rfl) (by with_unfolding_all rfl) (by with_unfolding_all rfl) (by decide) (by rfl) (by decide) (by rfl) (by rfl) (by rfl) ?_)))
          k_with "CompSrc" => guard_hyp tg9 : Mine.Tg 52976; refine Halt.out ?_
          k_steps
          unfold Halt
          refine LCg.CompSrc.ledger (by rfl) (by k_asm) (by k_asm) (ax := ln) (its := vs3.toArray) (k := n3) (by k_mem) (by rw [sizeLine_eq, List.size_toArray]; (exact Nat.le_trans (by with_reducible assumption) (Nat.le_of_ble_eq_true rfl))) ?_
          intro g2
          refine comp_const (fun i ys => OSAre ys ((os.map fun o => some (o.getD (Str.ofString "NA"))).take i)) OSAre.nil ?turn3 ?fin3
          case turn3 =>
            intro i v zs I oI C oC3 D m₂ h11 tk11 E' hi hv' hP hC hx2 F10 N10 off10 ne10
            have hv2 : vs3[i]? = some v := by simpa using hv'
            obtain ⟨o, hoi, hov⟩ := hv4.2 i v hv2
            have ht : ∀ u : Value, OSV (some (o.getD (Str.ofString "NA"))) u → OSAre (zs ++ [u]) ((os.map fun o => some (o.getD (Str.ofString "NA"))).take (i + 1)) := fun u hu => by
              have : (os.map fun o => some (o.getD (Str.ofString "NA")))[i]? = some (some (o.getD (Str.ofString "NA"))) := by simp [hoi]
              rw [List.take_add_one, this]
              exact hP.snoc hu
            k_with "CompEnd" => guard_hyp tg9 : Mine.Tg 52976; refine Halt.out ?_
            cases o with
            | none =>
              obtain rfl : v = .none := hov
              k_steps
              unfold Halt
              exact LCg.CompEnd.intro (by assumption) N10 _ (fun _ h => h) off10 (Or.inr ⟨_, by k_mem, rfl, _, rfl⟩) ⟨rfl, ht _ ⟨_, rfl⟩⟩
            | some z =>
              obtain ⟨tz, rfl⟩ := hov
              k_steps
              unfold Halt
              exact LCg.CompEnd.intro (by assumption) N10 _ (fun _ h => h) off10 (Or.inr ⟨_, by k_mem, rfl, _, rfl⟩) ⟨rfl, ht _ ⟨_, rfl⟩⟩
          case fin3 =>
            intro zs hP
            rw [List.take_of_length_le (by rw [List.length_map, List.size_toArray, hv4.1]; exact Nat.le_refl _)] at hP
            unfold LCg.FinA
            intro D3 h3 tk3 F10 N10 o10
            simp only [LCg.Off1, and_true] at o10
            have hns : OSAre zs ((os.map fun o => o.getD (Str.ofString "NA")).map some) := by rw [List.map_map]; exact hP
            k_steps
            exact At.intro (by assumption) (by assumption) (zs, _, D3) (by kqd_sub) (by tb_start) ⟨hns, o10.2.2.1, o10.1, o10.2.2.2⟩
        · intro bs bn lb m6 h6 tk6 F6 N6 pP9
          clear F5 N5
          obtain ⟨hvb, hneB1, hneB2, hneB3⟩ := pP9
          dsimp only [List.drop]
          try dsimp only at F6 N6 hvb hneB1 hneB2 hneB3
          have item : ∀ {i : Nat} {v : Value}, bs[i]? = some v → ∃ x t, (os.map fun o => o.getD (Str.ofString "NA"))[i]? = some x ∧ v = .str x t := by
            intro i v hv
            obtain ⟨o, ho, hov⟩ := hvb.2 i v hv
            rw [List.getElem?_map] at ho
            cases q : (os.map fun o => o.getD (Str.ofString "NA"))[i]? with
            | none => rw [q] at ho; cases ho
            | some x => rw [q] at ho; cases ho; obtain ⟨t, rfl⟩ := hov; exact ⟨x, t, rfl, rfl⟩
          have hBl : (os.map fun o => o.getD (Str.ofString "NA")).length = os.length := List.length_map _
          have hBs : ∀ x ∈ (os.map fun o => o.getD (Str.ofString "NA")), Sm 3 x := by
            intro x hx
            obtain ⟨o, ho, rfl⟩ := List.mem_map.mp hx
            cases o with
            | none => exact ⟨by decide, by decide⟩
            | some z => exact hs4 z ho
          generalize (os.map fun o => o.getD (Str.ofString "NA")) = BN at hmk hvb item hBl hBs
          rw [← hBl] at hmk hl4
          have hbl : bs.length = BN.length := by rw [hvb.1, List.length_map]
          clear hv4 hvl hs4 hBl
          have hfo := MkU.small hmk hl4 hl4 hBs ⟨hsl, hss⟩
          with_reducible refine cut2 3 g0 L0 s₁ (fun (cD : DU) (ld : Addr) => [(Str.ofString "due", .ref ld)]) (fun cD ld => [(ld, listOf cD.vs.toArray cD.n), (J, listOf ys.toArray jn), (L0 + 1 + 1, oT2), (657, tabObj ps)]) (fun cD ld => OSAre cD.vs (fo.map some) ∧ (@Ne Nat (L0 + 1 + 1) ld) ∧ (@Ne Nat J ld) ∧ @Ne Nat 657 ld) ?_ ?_
          · dsimp only [List.take]
            have hl4u : ∀ _ : Unit, BN.length ≤ 7 := fun _ => hl4
            clear hl4
            k_with "call type:list cons nil" => guard_hyp tg9 : Mine.Tg 52976; refine Halt.out ?_
            k_with "call builtin:len cons nil" => guard_hyp tg9 : Mine.Tg 52976; (refine len_at (l := lb) (by k_asm) (by k_mem) _ rfl (by have := hl4u (); show bs.length < _; (exact om221 (by k_asm) (by k_asm))) ?_)
            k_with "pyIter ref" => guard_hyp tg9 : Mine.Tg 52976; refine Halt.out ?_
            k_steps
            unfold Halt
            refine' kup_listOf (zs := bs) (its2 := bs.toArray) ?F77 ?N77 ?b77 (List.toList_toArray) ?_ ?z77
            (case F77 => k_asm)
            (case N77 => k_asm)
            (case b77 => k_mem)
            (case z77 => (rw [sizeLine_eq, List.toList_toArray]; have := hl4u (); (exact om222 (by k_asm) (by k_asm))))
            intro lt c5 h5 F5 N5 lT
            (try k_lt lT)
            k_steps
            rename_i ld _ lD _ _ _ _ _ _ _ _ _ _ _ _ _ _ _ hr8 F8 N8 _
            have hl4 := hl4u ()
            unfold Halt
            refine' for_range (n := BN.length) (fun c : DU => [(ld, listOf c.vs.toArray c.n), (lt, listOf c.ws.toArray c.k), (lb, listOf bs.toArray bn), (J, listOf ys.toArray jn), (L0 + 1 + 1, oT2), (657, tabObj ps)]) (fun _ => []) [Str.ofString "figure"] (DUOk BN sp) ⟨[], 0, bs, _, [], []⟩ (by rfl) hr8 (small_one (by (exact om2)) (by (exact om3)) (by (exact om4)) (by (exact om223 (by k_asm) (by k_asm)))) (by rw [← hbl]; exact rangeSize_nat _ _) F8 N8 (List.forall_mem_nil _) ⟨OSAre.nil, by rw [List.append_nil]; exact hvb, .zero⟩ ?turn4 ?done4
            case turn4 =>
              intro c j t8 u8 h8 tk8 own8 hj hoff8 ha8 hP8 F9 N9
              obtain ⟨hvd, hvt, hmk8⟩ := hP8
              dsimp only [List.map_cons, List.map_nil, List.cons_append, List.nil_append] at hoff8 N9
              rw [show (0 : Int) + (j : Int) = (j : Int) by (exact Int.zero_add _)] at F9
              obtain ⟨x, tx, hxj, hbx⟩ : ∃ x tx, BN[j]? = some x ∧ bs[j]? = some (.str x tx) := by
                have h0 : bs[j]? = some bs[j] := List.getElem?_eq_getElem (by (exact om224 (by k_asm) (by k_asm)))
                obtain ⟨x, t, h1, h2⟩ := item h0
                exact ⟨x, t, h1, h2 ▸ h0⟩
              have hml := hmk8.len
              have hxl := (hBs x (List.mem_of_getElem? hxj)).1
              have hvdl : c.vs.length ≤ 7 := by have := hvd.1; rw [List.length_map] at this; (exact om225 (by k_asm) (by k_asm) (by k_asm) (by k_asm))
              have hvtl : c.ws.length ≤ 14 := by have := hvt.1; rw [List.length_map, List.length_append] at this; (exact om226 hl4 hj hml this)
              have htk : OSAre (bs.take j) ((BN.take j).map some) := OSAre.upto hvb j
              have q8 : NeAll ld own8 := ne_all fun q hq => (hoff8 q hq ld (.head _)).symm
              have q9 : NeAll lt own8 := ne_all fun q hq => (hoff8 q hq lt (.tail _ (.head _))).symm
              k_with "subscriptTail Name Slice ref ref" => guard_hyp tg9 : Mine.Tg 52976; (k_dflt (refine upto_at (by k_asm) (by k_asm) (l := lb) (vs := bs) (by k_mem) (by (exact om227 (by k_asm) (by k_asm))) ?_); intro D' h' F' N' l'; (try k_lt l'))
              k_with "subscriptTail Name Name ref int" => guard_hyp tg9 : Mine.Tg 52976; (k_dflt (refine item_at (l := lb) (by k_asm) (by k_mem) hbx rfl (by (exact om228 hl4 hj)) ?_))
              k_with "subscriptTail Name UnaryOp ref int" => guard_hyp tg9 : Mine.Tg 52976; (k_dflt (refine last_at (l := ld) (by k_asm) (by k_mem) ?_))
              k_with "exec While Compare cons nil" => guard_hyp tg9 : Mine.Tg 52976; refine Halt.out ?_
              k_with "call builtin:list.append cons nil" => guard_hyp tg9 : Mine.Tg 52976; ((((k_dflt (refine app_at (by k_asm) (by k_asm) (by k_extra "pkA") (by k_extra "off") (by first | exact Nat.le_trans (by with_reducible assumption) (Nat.le_of_ble_eq_true rfl) | omega) ?_)); intro hA FA NA)))
              by_cases hin : x ∈ BN.take j
              · k_with "compareOp NotIn str ref" => guard_hyp tg9 : Mine.Tg 52976; (refine notin_strs (by k_asm) (by k_mem) htk true (decide_eq_true hin) ?_)
                k_steps
                rename Fr _ _ _ _ => F10
                rename News _ _ _ _ => N10
                unfold Halt
                refine' ksw_while (fun _ : Nat × Nat => (ld, listOf c.vs.toArray c.n) :: (lt, listOf c.ws.toArray c.k) :: (lb, listOf bs.toArray bn) :: (J, listOf ys.toArray jn) :: (L0 + 1 + 1, oT2) :: (657, tabObj ps) :: own8) (fun e => [(Str.ofString "figure", .int (e.1 : Int) e.2)]) (fun _ => True) [] (fun e => 1 ≤ e.1 ∧ ∀ i, 1 ≤ i → i < e.1 → cand x sp i ∈ BN ++ c.fr) (fun e => (BN ++ c.fr).length + 2 - e.1) (1, _) F10 (news_sub N10 (fun p hp => .tail _ hp)) trivial ?hk1 ⟨Nat.le_refl _, fun i h1 h2 => absurd h2 (by show ¬ i < 1; omega)⟩ ?turn5
                case hk1 => tb_start
                case turn5 =>
                  intro c3 u3 h6 tk6 _ hP6 F11 N11
                  obtain ⟨q1, q2⟩ := hP6
                  have hle := cands_le (l := BN ++ c.fr) (by rw [List.length_append]; (exact om229 (by k_asm) (by k_asm) (by k_asm))) q2
                  rw [List.length_append] at hle
                  by_cases hc : cand x sp c3.1 ∈ BN ++ c.fr
                  · k_with "compareOp In str ref" => guard_hyp tg9 : Mine.Tg 52976; (refine in_strs (by k_asm) (by k_mem) hvt true (decide_eq_true hc) ?_)
                    k_steps
                    refine haltI ?_
                    refine' ksw_end (c3.1 + 1, _) (by assumption) (by assumption) (fun _ h => h) trivial ?hk4 (by (intro z; (first | intro h1 h2 h3 | intro h2 h3); (refine Eq.symm ?_); (repeat (first | with_reducible rfl | refine relI (by first | with_reducible assumption | exact relN h3 (by with_unfolding_all rfl) | exact relP h2 (by with_unfolding_all rfl)) ?_ | refine relK (by first | with_reducible assumption | exact List.forall_mem_nil _ | exact relM h2 rfl) ?_ | exact rfl)); (refine Eq.symm ?_); (repeat (first | with_reducible rfl | exact relS h3 | refine relI (by first | with_reducible assumption | exact relN h3 (by with_unfolding_all rfl) | exact relP h2 (by with_unfolding_all rfl)) ?_ | refine relK (by first | with_reducible assumption | exact List.forall_mem_nil _ | exact relM h2 rfl) ?_ | exact rfl)); done)) ⟨Nat.le_add_left _ _, fun i h1 h2 => ?hq4⟩ (by show (BN ++ c.fr).length + 2 - (c3.1 + 1) < (BN ++ c.fr).length + 2 - c3.1; rw [List.length_append]; (exact om18 (by k_asm)))
                    case hk4 => tb_start
                    case hq4 =>
                      rcases Nat.lt_or_ge i c3.1 with h3 | h3
                      · exact q2 i h1 h3
                      · have h2' : i < c3.1 + 1 := h2
                        obtain rfl : i = c3.1 := by omega
                        exact hc
                  · k_with "compareOp In str ref" => guard_hyp tg9 : Mine.Tg 52976; (refine in_strs (by k_asm) (by k_mem) hvt false (decide_eq_false hc) ?_)
                    k_steps
                    rename News _ _ _ _ => N12
                    refine' turn_next ⟨c.vs ++ [Value.str (cand x sp c3.1) _], c.n + 1, c.ws ++ [Value.str (cand x sp c3.1) _], c.k + 1, c.fr ++ [cand x sp c3.1], c.fo ++ [cand x sp c3.1]⟩ (by assumption) N12 (by kqd_sub) (fun p hp => .tail _ (.tail _ (.tail _ (.tail _ (.tail _ (.tail _ hp)))))) rfl (List.forall_mem_nil _) (by (intro z; (first | intro h1 h2 h3 | intro h2 h3); (repeat (first | with_reducible rfl | exact relS h3 | refine relI (by first | with_reducible assumption | exact relN h3 (by with_unfolding_all rfl) | exact relP h2 (by with_unfolding_all rfl)) ?_ | refine relK (by first | with_reducible assumption | exact List.forall_mem_nil _ | exact relM h2 rfl) ?_ | exact rfl)); done)) ⟨?hd9, ?ht9, hmk8.again hxj hin q1 hc q2⟩
                    case hd9 =>
                      show OSAre _ ((c.fo ++ [cand x sp c3.1]).map some)
                      rw [List.map_append]
                      exact OSAre.snoc hvd ⟨_, rfl⟩
                    case ht9 =>
                      show OSAre _ ((BN ++ (c.fr ++ [cand x sp c3.1])).map some)
                      rw [← List.append_assoc, List.map_append]
                      exact OSAre.snoc hvt ⟨_, rfl⟩
              · k_with "compareOp NotIn str ref" => guard_hyp tg9 : Mine.Tg 52976; (refine notin_strs (by k_asm) (by k_mem) htk false (decide_eq_false hin) ?_)
                k_steps
                rename News _ _ _ _ => N12
                refine' turn_cont ⟨c.vs ++ [.str x tx], c.n + 1, c.ws, c.k, c.fr, c.fo ++ [x]⟩ (by assumption) N12 (by kqd_sub) (fun p hp => .tail _ (.tail _ (.tail _ (.tail _ (.tail _ (.tail _ (.tail _ hp))))))) rfl (List.forall_mem_nil _) (by (intro z; (first | intro h1 h2 h3 | intro h2 h3); (repeat (first | with_reducible rfl | exact relS h3 | refine relI (by first | with_reducible assumption | exact relN h3 (by with_unfolding_all rfl) | exact relP h2 (by with_unfolding_all rfl)) ?_ | refine relK (by first | with_reducible assumption | exact List.forall_mem_nil _ | exact relM h2 rfl) ?_ | exact rfl)); done)) ⟨?hf9, hvt, hmk8.first hxj hin⟩
                case hf9 =>
                  show OSAre _ ((c.fo ++ [x]).map some)
                  rw [List.map_append]
                  exact OSAre.snoc hvd ⟨tx, rfl⟩
            case done4 =>
              intro c u8 h8 tk8 hP8 F9 N9
              obtain ⟨hvd, -, hmk8⟩ := hP8
              obtain ⟨e8, e9⟩ := hmk.det hmk8
              rw [← e9] at hvd
              k_steps
              exact At.intro (by assumption) (by assumption) (c, ld) (by kqd_sub) (by tb_start) ⟨hvd, lt_ne (lt_in lD (by k_mem)), lt_ne (lt_in lD (by k_mem)), lt_ne (lt_in lD (by k_mem))⟩
          · intro cD ld m7 h7 tk7 F7 N7 pP9
            clear F6 N6
            obtain ⟨hvd, hneD1, hneD2, hneD3⟩ := pP9
            dsimp only [List.drop]
            try dsimp only at F7 N7 hvd hneD1 hneD2 hneD3
            have sm7 : ∀ x, some x ∈ fo.map some → PyData.strOk x = true := fun x hx => by
              obtain ⟨y, hy, e⟩ := List.mem_map.mp hx
              have e2 := Option.some.inj e
              subst e2
              exact small_ok (hfo _ hy).2
            have hfl : fo.length ≤ 7 := by have := hmk.len.2; (exact om230 (by k_asm) (by k_asm))
            have hyl : ys.length = fo.length := by rw [hys.1, List.length_map]
            have hnd := hmk.nodup.1
            with_reducible refine cut1 1 g0 L0 s₁ (fun (x0 : Unit) => []) (fun x0 => [(J, listOf ys.toArray jn), (L0 + 1 + 1, oT2), (657, tabObj ps)]) (fun x0 => True) ?_ ?_
            · dsimp only [List.take]
              k_with "compareOp NotEq ref ref" => guard_hyp tg9 : Mine.Tg 52976; refine Halt.out ?_
              have hflu : ∀ _ : Unit, fo.length ≤ 7 := fun _ => hfl
              have hl4u : ∀ _ : Unit, BN.length ≤ 7 := fun _ => hl4
              clear hfl hl4
              k_with "call builtin:len cons nil" => guard_hyp tg9 : Mine.Tg 52976; (refine len_at (l := J) (by k_asm) (by k_mem) fo.length hyl (by have := hflu (); (exact om231 (by k_asm))) ?_)
              k_with "eval ListComp Name cons" => guard_hyp tg9 : Mine.Tg 52976; refine Halt.out ?_
              k_steps
              unfold Halt
              dsimp only
              refine neS sm7 (by k_asm) (by k_mem) (by k_mem) hys hvd (by ke_room) ?_
              k_steps
              unfold Halt
              k_dflt (refine' LCt.ListComp_T (F₀ := ?kF) ?k1 ?k2 ?k3 ?k4 ?k5 ?_)
              (case k1 => with_unfolding_all rfl)
              (case k2 => decide)
              (case k3 => rfl)
              (case k4 => decide)
              (case k5 => rfl)
              (case kF => k_asm)
              k_with "CompSrcT" => guard_hyp tg9 : Mine.Tg 52976; refine Halt.out ?_
              k_steps
              rename_i hrC FC NC _
              unfold Halt
              refine LCt.CompSrcT.range (news := [(ld, listOf cD.vs.toArray cD.n), (J, listOf ys.toArray jn), (L0 + 1 + 1, oT2), (657, tabObj ps)]) (by rfl) FC NC hrC (small_one (by have := hflu (); (exact om2)) (by have := hflu (); (exact om3)) (by have := hflu (); (exact om4)) (by have := hflu (); (exact om232 (by k_asm)))) (rangeSize_nat _ _) (by rw [sizeLine_eq]; have := hflu (); (exact om233 (by k_asm))) ?_
              intro g2
              refine compT_none ?turn6 ?fin6
              case turn6 =>
                intro i v I oI C oC D6 m₂ h11 tk11 E' hi hv hC hx2 F10 N10 off10 ne10
                obtain ⟨ti, rfl⟩ := hv
                rw [show (0 : Int) + (i : Int) = (i : Int) by (exact Int.zero_add _)] at hx2
                have hi2 : i < fo.length := by (exact om234 (by k_asm))
                obtain ⟨x, tx, hxf, hxy⟩ := hys.str_at hi2
                have hnt := nodup_take hnd hxf
                have htk := hys.upto i
                have hi3 : i < 1000000 := by have := hflu (); (exact om235 (by k_asm) (by k_asm))
                have hy3 : ys.length ≤ 1000 := by have := hflu (); (exact om227 (by k_asm) (by k_asm))
                k_with "subscriptTail Name Slice ref ref" => guard_hyp tg9 : Mine.Tg 52976; (k_dflt (refine upto_at (by k_asm) (by k_asm) (l := J) (vs := ys) (by k_mem) hy3 ?_); intro D' h' F' N' l'; (try k_lt l'))
                k_with "subscriptTail Name Name ref int" => guard_hyp tg9 : Mine.Tg 52976; (k_dflt (refine item_at (l := J) (by k_asm) (by k_mem) hxy rfl hi3 ?_))
                k_with "compareOp In str ref" => guard_hyp tg9 : Mine.Tg 52976; (k_dflt (refine in_strs (by k_asm) (by k_mem) htk false (decide_eq_false hnt) ?_))
                k_steps
                exact LCg.CompEnd.intro (by assumption) (by assumption) [(ld, listOf cD.vs.toArray cD.n), (J, listOf ys.toArray jn), (L0 + 1 + 1, oT2), (657, tabObj ps)] (by kqd_sub) off10 trivial rfl
              case fin6 =>
                unfold LCg.FinE
                intro D6 h6 tk6 F10 N10 o10
                k_with "compareOp NotEq ref ref" => guard_hyp tg9 : Mine.Tg 52976; refine Halt.out ?_
                k_steps
                unfold Halt
                try dsimp only
                refine neS (xs := []) (vs := []) (us := []) (fun _ h => nomatch h) (by k_asm) (by k_mem) (by k_mem) OSAre.nil OSAre.nil (by ke_room) ?_
                k_steps
                exact At.intro (by assumption) (by assumption) () (by kqd_sub) (by tb_start) trivial
            · intro _ m8 h8 tk8 F8 N8 _
              clear F7 N7
              dsimp only [List.drop]
              try dsimp only at F8 N8
              (try clear tg9); have tg9 : Mine.Tg 35690 := tgI 35690
              k_with "call type:list cons nil" => guard_hyp tg9 : Mine.Tg 35690; (k_dflt (refine' kup_listOf (zs := ys) (its2 := ys.toArray) ?F ?N ?b (List.toList_toArray) ?_ ?z; (case F => k_asm); (case N => k_asm); (case b => k_mem); (case z => rw [sizeLine_eq, List.toList_toArray]; omega)); intro D5 c5 h5 F5 N5 l5; (try k_lt l5))
              k_with "call ref" => guard_hyp tg9 : Mine.Tg 35690; ((((with_reducible show wpAny _ _ (call (Value.ref 237) _) _ _ _); (k_dflt (refine useV (by k_asm) (by k_asm) (by k_asm) (by k_asm) (by k_asm) (by first | exact rfl | assumption) (by ktr_room) (by ktr_units) ?_)); intro _ _ _ _ _ _ _ _ _ _ _ _ _)))
              k_with "call ref" => guard_hyp tg9 : Mine.Tg 35690; ((with_reducible show wpAny _ _ (call (Value.ref 688) _) _ _ _); refine Halt.out ?_)
              k_steps
              rename_i D5 _ _ _ Vx dX _ _ _ _ _ _ _ _ _ U1 _ _ A _ _ _ _
              unfold Halt
              have ho : Chain [D5, dX, Vx, U1, A] := by ((simp only [Chain, and_true]; (repeat' refine And.intro ?_ ?_); all_goals (k_extra "lt")))
              have hS : Dist [A, U1, Vx, dX, D5, J, L0 + 1 + 1, 657] := Desc.app_low (hi := [A, U1, Vx, dX]) (D := D5) (desc_of ho) (List.forall_mem_cons.mpr ⟨by k_extra "lt", List.forall_mem_cons.mpr ⟨by k_extra "lt", List.forall_mem_cons.mpr ⟨by k_extra "lt", List.forall_mem_nil _⟩⟩⟩) ⟨(List.forall_mem_cons.mpr ⟨by k_extra "ne", List.forall_mem_cons.mpr ⟨by k_extra "ne", List.forall_mem_nil _⟩⟩), (List.forall_mem_cons.mpr ⟨gt_ne (lt_up (lt_up f657)), List.forall_mem_nil _⟩), List.forall_mem_nil _, trivial⟩
              (((k_dflt (refine useP (kbuniqH w A U1 Vx dX D5 _ _ _ _ _ _ _ _ ys (fo.map some) hys (by rw [List.length_map]; exact hfl) (fun x hx => by obtain ⟨y, hy, e⟩ := List.mem_map.mp hx; cases e; exact Nat.le_trans (hfo _ hy).1 (by decide)) ho) (by k_asm) (by k_asm) (by k_asm) (by k_asm) (by k_asm) (by first | exact rfl | assumption) (by ktr_room) (by ktr_units) (by first | exact True.intro | assumption | exact PySem.W.CodeHd.keeps (by assumption) (Fr.keep (by assumption))) (by k_extra "pkA") (by k_extra "off") ?_)); intro v9 p9 h9 tk9 F9 N9 O9 P9))
              obtain ⟨J2, jn2, ys2, tl9, rfl, rfl, ⟨fr2, fo2, rfl, hys2, hmk2⟩, hl9⟩ := P9
              have hJ2 := lt_in hl9 memA0
              clear hl9
              dsimp only [List.cons_append, List.nil_append] at N9
              have qJ := off_all O9
              simp +zetaDelta only [OffAll, NeAll, and_true] at qJ
              have efo : fo2 = fo := by
                have e1 : (fo.map some).map (fun o => o.getD (Str.ofString "NA")) = fo := by rw [List.map_map]; exact List.map_id _
                rw [e1, List.length_map] at hmk2
                have := (hmk2.det (MkU.same hnd fo.length (Nat.le_refl _))).2
                rw [this, List.take_length]
              rw [efo] at hys2
              clear efo hmk2
              k_with "compareOp Eq ref ref" => guard_hyp tg9 : Mine.Tg 35690; refine Halt.out ?_
              k_steps
              unfold Halt
              dsimp only
              refine eqS sm7 (by k_asm) (by k_mem) (by k_mem) hys2 hys (by ke_room) ?_
              refine ⟨goodW_bool (L := L0) (by assumption) hg (raisesW_false (by wrow_none_raised)) (by kc_post), ?_⟩
              exact ⟨GrownAt.of (by assumption) (by k_mem), trivial⟩)

end

end Mine
set_option maxRecDepth 100000 in
set_option maxHeartbeats 8000000 in
theorem PySem.Challenge.cw_pq1336_01_holds : PySem.Challenge.rw_pq1336_01.Holds := by
  exact Mine.law_holds
