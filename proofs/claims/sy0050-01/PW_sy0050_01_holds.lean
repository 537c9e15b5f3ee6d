import PyProof.Rows.All
import Wide.All
import OpenK.AllK
import Wide.FinOn
import PySem.Challenge.RW_sy0050_01
set_option Elab.async false
set_option compiler.extract_closed false
section -- Hd4
open PySem PySem.W PyProof.Rows
set_option Elab.async false
theorem PySem.W.Fast.tw2711585505577850959 : True := trivial
theorem PySem.W.Fast.tw12046425863553024001 : True := trivial
theorem PySem.W.Fast.tw8620020772036689432 : True := trivial
theorem PySem.W.Fast.tw892740764711202435 : True := trivial
theorem PySem.W.Fast.tw1010255546594321568 : True := trivial
theorem PySem.W.Fast.tw18286265847491885052 : True := trivial
theorem PySem.W.Fast.tw7232422423428716515 : True := trivial
theorem PySem.W.Fast.tw12835720964997663042 : True := trivial
theorem PySem.W.Fast.tw2504501939568898240 : True := trivial
theorem PySem.W.Fast.tw13987355940573415152 : True := trivial
theorem PySem.W.Fast.tw14489655085307688843 : True := trivial
theorem PySem.W.Fast.tw6004533443673955352 : True := trivial
theorem PySem.W.Fast.tw17517737089405305841 : True := trivial
theorem PySem.W.Fast.tw9674257727999782656 : True := trivial
theorem PySem.W.Fast.tw7009043117176579089 : True := trivial
theorem PySem.W.Fast.tw2351620601788327285 : True := trivial
theorem PySem.W.Fast.tw13160144027095335755 : True := trivial
theorem PySem.W.Fast.tw1379578315556383370 : True := trivial
theorem PySem.W.Fast.tw14364280277409689854 : True := trivial
theorem PySem.W.Fast.tw17827458813498177553 : True := trivial
theorem PySem.W.Fast.tw9011979029575296479 : True := trivial
theorem PySem.W.Fast.tw9787396351842916947 : True := trivial
theorem PySem.W.Fast.tw7250012664060256230 : True := trivial
theorem PySem.W.Fast.tw1291980286583624508 : True := trivial
theorem PySem.W.Fast.tw12494133203773749484 : True := trivial
theorem PySem.W.Fast.tw2718901123391026995 : True := trivial
theorem PySem.W.Fast.tw2001226814458364393 : True := trivial
theorem PySem.W.Fast.tw15560500314895047343 : True := trivial
theorem PySem.W.Fast.tw16145008321745377990 : True := trivial
theorem PySem.W.Fast.tw282004115355043989 : True := trivial
theorem PySem.W.Fast.tw17244072584429378644 : True := trivial
theorem PySem.W.Fast.tw5550314157272711993 : True := trivial
theorem PySem.W.Fast.tw13640514254501968386 : True := trivial
theorem PySem.W.Fast.tw14460367522058181017 : True := trivial
theorem PySem.W.Fast.tw9047900276149940361 : True := trivial
theorem PySem.W.Fast.tw17804436615005485693 : True := trivial
theorem PySem.W.Fast.tw3856783459128436802 : True := trivial
theorem PySem.W.Fast.tw11256389202845128640 : True := trivial
theorem PySem.W.Fast.tw15079194523842364033 : True := trivial
theorem PySem.W.Fast.tw11882691865914478047 : True := trivial
theorem PySem.W.Fast.tw10379131730601215995 : True := trivial
theorem PySem.W.Fast.tw18386054884457128365 : True := trivial
theorem PySem.W.Fast.tw15202239659555905331 : True := trivial
theorem PySem.W.Fast.tw3093977132361051618 : True := trivial
theorem PySem.W.Fast.tw4172830789200971933 : True := trivial
theorem PySem.W.Fast.tw774047393022817027 : True := trivial
theorem PySem.W.Fast.tw16495097172686442475 : True := trivial
theorem PySem.W.Fast.tw7275051467321613617 : True := trivial
theorem PySem.W.Fast.tw17846936440860909165 : True := trivial
theorem PySem.W.Fast.tw15059462757989803610 : True := trivial
theorem PySem.W.Fast.tw3460871413274159568 : True := trivial
theorem PySem.W.Fast.tw17475289236778735526 : True := trivial
theorem PySem.W.Fast.tw14385942598474689953 : True := trivial
theorem PySem.W.Fast.tw937105155873367277 : True := trivial
theorem PySem.W.Fast.tw12233582284571471492 : True := trivial
theorem PySem.W.Fast.tw9190918148164325157 : True := trivial
theorem PySem.W.Fast.tw195516440579289731 : True := trivial
theorem PySem.W.Fast.tw16048576614497160029 : True := trivial
theorem PySem.W.Fast.tw17730448691065144110 : True := trivial
theorem PySem.W.Fast.tw6135381517318000843 : True := trivial
theorem PySem.W.Fast.tw12177649209318274912 : True := trivial
theorem PySem.W.Fast.tw17429684086410527887 : True := trivial
theorem PySem.W.Fast.tw16138931208732196661 : True := trivial
theorem PySem.W.Fast.tw16950312913027304927 : True := trivial
theorem PySem.W.Fast.tw3619232141914619222 : True := trivial
theorem PySem.W.Fast.tw5854881644878751223 : True := trivial
theorem PySem.W.Fast.tw4706425542698204933 : True := trivial
theorem PySem.W.Fast.tw1829445100760108279 : True := trivial
theorem PySem.W.Fast.tw10758392820592806131 : True := trivial
theorem PySem.W.Fast.tw6952355047532471503 : True := trivial
theorem PySem.W.Fast.tw5247225353297040015 : True := trivial
theorem PySem.W.Fast.tw3633577522364906407 : True := trivial
theorem PySem.W.Fast.tw1930203975799679532 : True := trivial
theorem PySem.W.Fast.tw7155543432591195943 : True := trivial
theorem PySem.W.Fast.tw2759451637364818457 : True := trivial
theorem PySem.W.Fast.tw9376109419431680627 : True := trivial
theorem PySem.W.Fast.tw189603312586018693 : True := trivial
theorem PySem.W.Fast.tw3766158894648301139 : True := trivial
theorem PySem.W.Fast.tw2736616831223182526 : True := trivial
theorem PySem.W.Fast.tw1355338860687761863 : True := trivial
theorem PySem.W.Fast.tw6698160770425034372 : True := trivial
theorem PySem.W.Fast.tw682011567655089306 : True := trivial
theorem PySem.W.Fast.tw13241461904039861399 : True := trivial
theorem PySem.W.Fast.tw16413264400604254196 : True := trivial
theorem PySem.W.Fast.tw13471461260053382970 : True := trivial
theorem PySem.W.Fast.tw17719373434677690450 : True := trivial
theorem PySem.W.Fast.tw2948108419219029167 : True := trivial
theorem PySem.W.Fast.tw15020028541594565831 : True := trivial
theorem PySem.W.Fast.tw11306939235166856333 : True := trivial
theorem PySem.W.Fast.tw3952652319720093869 : True := trivial
theorem PySem.W.Fast.tw14952990662201256454 : True := trivial
theorem PySem.W.Fast.tw7344376507651311505 : True := trivial
theorem PySem.W.Fast.tw4011157648589011858 : True := trivial
theorem PySem.W.Fast.tw13180171748994924942 : True := trivial
theorem PySem.W.Fast.tw12268644228514654432 : True := trivial
theorem PySem.W.Fast.tw13526986893379352335 : True := trivial
theorem PySem.W.Fast.tw7449101846280096545 : True := trivial
theorem PySem.W.Fast.tw17318589155259679147 : True := trivial
theorem PySem.W.Fast.tw6224646082405213132 : True := trivial
theorem PySem.W.Fast.tw11765014963103734823 : True := trivial
theorem PySem.W.Fast.tw460243522976405022 : True := trivial
theorem PySem.W.Fast.tw8162909057868654942 : True := trivial
theorem PySem.W.Fast.tw8704618095886561957 : True := trivial
theorem PySem.W.Fast.tw18328561965235511954 : True := trivial
theorem PySem.W.Fast.tw12685288147446428418 : True := trivial
theorem PySem.W.Fast.tw11444479768174223005 : True := trivial
theorem PySem.W.Fast.tw4407734736301137906 : True := trivial
theorem PySem.W.Fast.tw13427988762788590312 : True := trivial
theorem PySem.W.Fast.tw8172093975534723114 : True := trivial
theorem PySem.W.Fast.tw13721567128424951087 : True := trivial
theorem PySem.W.Fast.tw5978237884098788730 : True := trivial
theorem PySem.W.Fast.tw9787463984185863102 : True := trivial
theorem PySem.W.Fast.tw704327219915372674 : True := trivial
theorem PySem.W.Fast.tw6144853644547557980 : True := trivial
theorem PySem.W.Fast.tw18350330562280901221 : True := trivial
theorem PySem.W.Fast.tw17943406268862710625 : True := trivial
theorem PySem.W.Fast.tw10010936943081839664 : True := trivial
theorem PySem.W.Fast.tw3315324234476444515 : True := trivial
theorem PySem.W.Fast.tw18273839248471157720 : True := trivial
theorem PySem.W.Fast.tw12225727855978595839 : True := trivial
theorem PySem.W.Fast.tw15468230090516036684 : True := trivial
theorem PySem.W.Fast.tw14896874001708588922 : True := trivial
theorem PySem.W.Fast.tw151948405760981731 : True := trivial
theorem PySem.W.Fast.tw2792339627646198441 : True := trivial
theorem PySem.W.Fast.tw5732905514179830355 : True := trivial
theorem PySem.W.Fast.tw13262538273218963204 : True := trivial
theorem PySem.W.Fast.tw16746247001508962819 : True := trivial
theorem PySem.W.Fast.tw3069475018656635626 : True := trivial
theorem PySem.W.Fast.tw607167704815816724 : True := trivial
theorem PySem.W.Fast.tw14311459727803291754 : True := trivial
theorem PySem.W.Fast.tw6813294653679155843 : True := trivial
theorem PySem.W.Fast.tw489095991917526796 : True := trivial
theorem PySem.W.Fast.tw10416916031126315651 : True := trivial
theorem PySem.W.Fast.tw13607416678640721797 : True := trivial
theorem PySem.W.Fast.tw14186486079044719983 : True := trivial
theorem PySem.W.Fast.tw1100353791813204450 : True := trivial
theorem PySem.W.Fast.tw11277716924127702174 : True := trivial
theorem PySem.W.Fast.tw15808557625122938864 : True := trivial
theorem PySem.W.Fast.tw2968979199505139716 : True := trivial
theorem PySem.W.Fast.tw487364732245791922 : True := trivial
theorem PySem.W.Fast.tw5715658561523051193 : True := trivial
theorem PySem.W.Fast.tw16741492637210864865 : True := trivial
theorem PySem.W.Fast.tw16865151637890581275 : True := trivial
theorem PySem.W.Fast.tw9285146279643344392 : True := trivial
theorem PySem.W.Fast.tw4278798014809849964 : True := trivial
theorem PySem.W.Fast.tw10308316962582663543 : True := trivial
theorem PySem.W.Fast.tw6937325167468391026 : True := trivial
theorem PySem.W.Fast.tw11130039905162102590 : True := trivial
theorem PySem.W.Fast.tw1499420768645567495 : True := trivial
theorem PySem.W.Fast.tw18101931140130867144 : True := trivial
theorem PySem.W.Fast.tw2193789692954389824 : True := trivial
theorem PySem.W.Fast.tw1615719349143574890 : True := trivial
theorem PySem.W.Fast.tw10073347824450446311 : True := trivial
theorem PySem.W.Fast.tw18366058095514959488 : True := trivial
theorem PySem.W.Fast.tw8795123598061512290 : True := trivial
theorem PySem.W.Fast.tw5149714755402479525 : True := trivial
theorem PySem.W.Fast.tw15007238320947547705 : True := trivial
theorem PySem.W.Fast.tw9626942728845285128 : True := trivial
theorem PySem.W.Fast.tw7393211689510517793 : True := trivial
theorem PySem.W.Fast.tw6234664779796018075 : True := trivial
theorem PySem.W.Fast.tw7585139358526817783 : True := trivial
theorem PySem.W.Fast.tw15168306246750427876 : True := trivial
theorem PySem.W.Fast.tw10647819351689358120 : True := trivial
theorem PySem.W.Fast.tw10823345740709935493 : True := trivial
theorem PySem.W.Fast.tw1617757218408452269 : True := trivial
theorem PySem.W.Fast.tw15560853006256673968 : True := trivial
theorem PySem.W.Fast.tw951843321253372498 : True := trivial
theorem PySem.W.Fast.tw14386061602966655976 : True := trivial
theorem PySem.W.Fast.tw6142071019320080357 : True := trivial
theorem PySem.W.Fast.tw8473563963867554017 : True := trivial
theorem PySem.W.Fast.tw3891137856419664920 : True := trivial
theorem PySem.W.Fast.tw17101871299007795629 : True := trivial
theorem PySem.W.Fast.tw8944806292087596576 : True := trivial
theorem PySem.W.Fast.tw13915792640404377917 : True := trivial
theorem PySem.W.Fast.tw16643379632663270332 : True := trivial
theorem PySem.W.Fast.tw16966814322356759819 : True := trivial
theorem PySem.W.Fast.tw6606113021469975653 : True := trivial
theorem PySem.W.Fast.tw8708707556590381134 : True := trivial
theorem PySem.W.Fast.tw17964007177503468958 : True := trivial
theorem PySem.W.Fast.tw16413963553889246368 : True := trivial
theorem PySem.W.Fast.tw18310272354389090212 : True := trivial
theorem PySem.W.Fast.tw9062771732600952553 : True := trivial
theorem PySem.W.Fast.tw3355348695024010778 : True := trivial
theorem PySem.W.Fast.tw8999186272805695465 : True := trivial
theorem PySem.W.Fast.tw1267870562809915468 : True := trivial
theorem PySem.W.Fast.tw7299951869573292228 : True := trivial
theorem PySem.W.Fast.tw17888162413812561239 : True := trivial
theorem PySem.W.Fast.tw17138261911001417010 : True := trivial
theorem PySem.W.Fast.tw14031254098957005024 : True := trivial
theorem PySem.W.Fast.tw12526863579885937616 : True := trivial
theorem PySem.W.Fast.tw8552093678088426289 : True := trivial
theorem PySem.W.Fast.tw14537914154153760125 : True := trivial
theorem PySem.W.Fast.tw503676674663206642 : True := trivial
theorem PySem.W.Fast.tw4275521005467322725 : True := trivial
theorem PySem.W.Fast.tw10190238754879171395 : True := trivial
theorem PySem.W.Fast.tw14108194823987119177 : True := trivial
theorem PySem.W.Fast.tw9736788993784561348 : True := trivial
theorem PySem.W.Fast.tw11786184479649081736 : True := trivial
theorem PySem.W.Fast.tw4507309187265873474 : True := trivial
theorem PySem.W.Fast.tw3302314484089059179 : True := trivial
theorem PySem.W.Fast.tw3577408171920636059 : True := trivial
theorem PySem.W.Fast.tw16451151925259046446 : True := trivial
theorem PySem.W.Fast.tw8180830640274347804 : True := trivial
theorem PySem.W.Fast.tw17164873540382356111 : True := trivial
theorem PySem.W.Fast.tw7543195961347049332 : True := trivial
theorem PySem.W.Fast.tw17071476683966804577 : True := trivial
theorem PySem.W.Fast.tw13102660428377437172 : True := trivial
theorem PySem.W.Fast.tw4733837786962973091 : True := trivial
theorem PySem.W.Fast.tw1460277438893781036 : True := trivial
theorem PySem.W.Fast.tw1544652992362985085 : True := trivial
theorem PySem.W.Fast.tw9977392586421186931 : True := trivial
theorem PySem.W.Fast.tw17344680358763864322 : True := trivial
theorem PySem.W.Fast.tw15194748194917737719 : True := trivial
theorem PySem.W.Fast.tw17842620306162639686 : True := trivial
theorem PySem.W.Fast.tw8430678208038309684 : True := trivial
theorem PySem.W.Fast.tw5152784196030571298 : True := trivial
theorem PySem.W.Fast.tw18260038339965228139 : True := trivial
theorem PySem.W.Fast.tw4613930686462287906 : True := trivial
theorem PySem.W.Fast.tw39160002569200845 : True := trivial
theorem PySem.W.Fast.tw8902219603052485911 : True := trivial
theorem PySem.W.Fast.tw7950560144509940271 : True := trivial
theorem PySem.W.Fast.tw447715330943862342 : True := trivial
theorem PySem.W.Fast.tw16180582048198870337 : True := trivial
theorem PySem.W.Fast.tw1320183511955256522 : True := trivial
theorem PySem.W.Fast.tw6838443636238091967 : True := trivial
theorem PySem.W.Fast.tw5889167727604068794 : True := trivial
theorem PySem.W.Fast.tw15806122291839087668 : True := trivial
theorem PySem.W.Fast.tw2011108890870493169 : True := trivial
theorem PySem.W.Fast.tw6980910045739468074 : True := trivial
theorem PySem.W.Fast.tw9979284746773624096 : True := trivial
theorem PySem.W.Fast.tw14126943448341045398 : True := trivial
theorem PySem.W.Fast.tw4858009861420398278 : True := trivial
theorem PySem.W.Fast.tw10939839348159177617 : True := trivial
theorem PySem.W.Fast.tw6589095468515690095 : True := trivial
theorem PySem.W.Fast.tw11270796479367742343 : True := trivial
theorem PySem.W.Fast.tw3820604794100220378 : True := trivial
theorem PySem.W.Fast.tw10948738476641704880 : True := trivial
theorem PySem.W.Fast.tw8649964590619651473 : True := trivial
theorem PySem.W.Fast.tw790365300219607850 : True := trivial
theorem PySem.W.Fast.tw3345107109950449737 : True := trivial
theorem PySem.W.Fast.tw8032284361305108907 : True := trivial
theorem PySem.W.Fast.tw12377561305857167785 : True := trivial
theorem PySem.W.Fast.tw8656719876789144132 : True := trivial
theorem PySem.W.Fast.tw15278061642289888581 : True := trivial
theorem PySem.W.Fast.tw3698559305507148144 : True := trivial
theorem PySem.W.Fast.tw4405960384096086239 : True := trivial
theorem PySem.W.Fast.tw3427515755752030745 : True := trivial
theorem PySem.W.Fast.tw12731603968600162155 : True := trivial
theorem PySem.W.Fast.tw17274371674624000324 : True := trivial
theorem PySem.W.Fast.tw5357591511691535388 : True := trivial
theorem PySem.W.Fast.tw4527066259768149269 : True := trivial
theorem PySem.W.Fast.tw8224813933742928703 : True := trivial
theorem PySem.W.Fast.tw1771862750571323454 : True := trivial
theorem PySem.W.Fast.tw7081425507203772304 : True := trivial
theorem PySem.W.Fast.tw4352594626159697269 : True := trivial
theorem PySem.W.Fast.tw7785048605280242668 : True := trivial
theorem PySem.W.Fast.tw3758773823038459598 : True := trivial
theorem PySem.W.Fast.tw14333388528381170442 : True := trivial
theorem PySem.W.Fast.tw11853533878840232495 : True := trivial
theorem PySem.W.Fast.tw18371169792594650754 : True := trivial
theorem PySem.W.Fast.tw6132934438814934913 : True := trivial
theorem PySem.W.Fast.tw12825359941727978080 : True := trivial
theorem PySem.W.Fast.tw17899373020297197333 : True := trivial
theorem PySem.W.Fast.tw1423138165483278961 : True := trivial
theorem PySem.W.Fast.tw10045867985992453528 : True := trivial
theorem PySem.W.Fast.tw16039550372008468697 : True := trivial
theorem PySem.W.Fast.tw3362959441861295915 : True := trivial
theorem PySem.W.Fast.tw11166942722945506595 : True := trivial
theorem PySem.W.Fast.tw9220164819049634311 : True := trivial
theorem PySem.W.Fast.tw1370275717833778536 : True := trivial
theorem PySem.W.Fast.tw8579058602437062094 : True := trivial
theorem PySem.W.Fast.tw7618406622816332465 : True := trivial
theorem PySem.W.Fast.tw12393455550290869266 : True := trivial
theorem PySem.W.Fast.tw4205239288364317433 : True := trivial
theorem PySem.W.Fast.tw252367510798351285 : True := trivial
theorem PySem.W.Fast.tw16406328271908756883 : True := trivial
theorem PySem.W.Fast.tw8283515000281207119 : True := trivial
theorem PySem.W.Fast.tw1690735587144091376 : True := trivial
theorem PySem.W.Fast.tw10220936982206179058 : True := trivial
theorem PySem.W.Fast.tw17111948838632640456 : True := trivial
theorem PySem.W.Fast.tw17139780236743587250 : True := trivial
theorem PySem.W.Fast.tw4319705520415482375 : True := trivial
theorem PySem.W.Fast.tw16817318245366136608 : True := trivial
theorem PySem.W.Fast.tw17552769576498331613 : True := trivial
theorem PySem.W.Fast.tw6990963922061375149 : True := trivial
theorem PySem.W.Fast.tw7112787868492120936 : True := trivial
theorem PySem.W.Fast.tw13580328829973926956 : True := trivial
theorem PySem.W.Fast.tw1735497430108182060 : True := trivial
theorem PySem.W.Fast.tw16947794391021106201 : True := trivial
theorem PySem.W.Fast.tw4978915544186085027 : True := trivial
theorem PySem.W.Fast.tw15900120412870309639 : True := trivial
theorem PySem.W.Fast.tw13902233598862641821 : True := trivial
theorem PySem.W.Fast.tw12828332729040242785 : True := trivial
theorem PySem.W.Fast.tw10007627690174824804 : True := trivial
theorem PySem.W.Fast.tw4292500188555128830 : True := trivial
theorem PySem.W.Fast.tw9893030918988833448 : True := trivial
theorem PySem.W.Fast.tw1749818173716722547 : True := trivial
theorem PySem.W.Fast.tw2315820567201803617 : True := trivial
theorem PySem.W.Fast.tw10216692956209284516 : True := trivial
theorem PySem.W.Fast.tw16531745337717519161 : True := trivial
theorem PySem.W.Fast.tw14884601019740666482 : True := trivial
theorem PySem.W.Fast.tw10650810973499830745 : True := trivial
theorem PySem.W.Fast.tw6917869754434977982 : True := trivial
theorem PySem.W.Fast.tw17069979004554194336 : True := trivial
theorem PySem.W.Fast.tw15902184279288820625 : True := trivial
theorem PySem.W.Fast.tw7976981314885711489 : True := trivial
theorem PySem.W.Fast.tw13912434898499826684 : True := trivial
theorem PySem.W.Fast.tw1189118826323900759 : True := trivial
theorem PySem.W.Fast.tw1711367819467211730 : True := trivial
theorem PySem.W.Fast.tw3740020263889925745 : True := trivial
theorem PySem.W.Fast.tw15315713394281565010 : True := trivial
theorem PySem.W.Fast.tw3953757239420563355 : True := trivial
theorem PySem.W.Fast.tw13746126617404028095 : True := trivial
theorem PySem.W.Fast.tw14834023430324568649 : True := trivial
theorem PySem.W.Fast.tw13650077344797733491 : True := trivial
theorem PySem.W.Fast.tw16904869804480856166 : True := trivial
theorem PySem.W.Fast.tw11740888236361828772 : True := trivial
theorem PySem.W.Fast.tw16055639363135861790 : True := trivial
theorem PySem.W.Fast.tw1503297043503765363 : True := trivial
theorem PySem.W.Fast.tw7573151900890175926 : True := trivial
theorem PySem.W.Fast.tw13016732220969518872 : True := trivial
theorem PySem.W.Fast.tw15028816761298942483 : True := trivial
theorem PySem.W.Fast.tw7499937903120025604 : True := trivial
theorem PySem.W.Fast.tw1139862187096482527 : True := trivial
theorem PySem.W.Fast.tw5076957145309523181 : True := trivial
theorem PySem.W.Fast.tw7386744729831018872 : True := trivial
theorem PySem.W.Fast.tw17394056326795013819 : True := trivial
theorem PySem.W.Fast.tw15263041282635125899 : True := trivial
theorem PySem.W.Fast.tw9931943479562821362 : True := trivial
theorem PySem.W.Fast.tw2905824091091238844 : True := trivial
theorem PySem.W.Fast.tw136631920214876835 : True := trivial
theorem PySem.W.Fast.tw3504847659760329788 : True := trivial
theorem PySem.W.Fast.tw2378363196638174374 : True := trivial
theorem PySem.W.Fast.tw6123655918767846522 : True := trivial
theorem PySem.W.Fast.tw3826639566459466600 : True := trivial
theorem PySem.W.Fast.tw17020626225693228618 : True := trivial
theorem PySem.W.Fast.tw5721027456603625697 : True := trivial
theorem PySem.W.Fast.tw13317431791736044220 : True := trivial
theorem PySem.W.Fast.tw12290603225136948437 : True := trivial
theorem PySem.W.Fast.tw389472881494512206 : True := trivial
theorem PySem.W.Fast.tw6122645084068987007 : True := trivial
theorem PySem.W.Fast.tw17727738676932873817 : True := trivial
theorem PySem.W.Fast.tw6607189417530752870 : True := trivial
theorem PySem.W.Fast.tw15041003319150489328 : True := trivial
theorem PySem.W.Fast.tw15562837088269578035 : True := trivial
theorem PySem.W.Fast.tw15039117976438264115 : True := trivial
theorem PySem.W.Fast.tw8777329075199875621 : True := trivial
theorem PySem.W.Fast.tw1537898542681612871 : True := trivial
theorem PySem.W.Fast.tw14209830616999942402 : True := trivial
theorem PySem.W.Fast.tw15880737140895825463 : True := trivial
theorem PySem.W.Fast.tw14714103240675001986 : True := trivial
theorem PySem.W.Fast.tw1041845030581493396 : True := trivial
theorem PySem.W.Fast.tw17503288770812694035 : True := trivial
theorem PySem.W.Fast.tw2422670821966735624 : True := trivial
theorem PySem.W.Fast.tw11861152243698038893 : True := trivial
theorem PySem.W.Fast.tw5144633987255907666 : True := trivial
theorem PySem.W.Fast.tw8860024209350480642 : True := trivial
theorem PySem.W.Fast.tw8719427161674164953 : True := trivial
theorem PySem.W.Fast.tw5936146933674214641 : True := trivial
theorem PySem.W.Fast.tw7581816359482902497 : True := trivial
theorem PySem.W.Fast.tw1708024556718086227 : True := trivial
theorem PySem.W.Fast.tw10690313237802994826 : True := trivial
theorem PySem.W.Fast.tw11891824955294080559 : True := trivial
theorem PySem.W.Fast.tw3778451253796500701 : True := trivial
theorem PySem.W.Fast.tw10276908904998144438 : True := trivial
theorem PySem.W.Fast.tw3267979357774110234 : True := trivial
theorem PySem.W.Fast.tw8123005709971320403 : True := trivial
theorem PySem.W.Fast.tw3054071069301022655 : True := trivial
theorem PySem.W.Fast.tw7397068168572129948 : True := trivial
theorem PySem.W.Fast.tw18131936236247874842 : True := trivial
theorem PySem.W.Fast.tw17476080006546285661 : True := trivial
theorem PySem.W.Fast.tw1375587502874563802 : True := trivial
theorem PySem.W.Fast.tw11333186260410459676 : True := trivial
theorem PySem.W.Fast.tw16869277618539721502 : True := trivial
theorem PySem.W.Fast.tw15423634916342008072 : True := trivial
theorem PySem.W.Fast.tw9501820088010722379 : True := trivial
theorem PySem.W.Fast.tw13121200027793486533 : True := trivial
theorem PySem.W.Fast.tw3797612339304411714 : True := trivial
theorem PySem.W.Fast.tw4800724452203346748 : True := trivial
theorem PySem.W.Fast.tw3282434896037501709 : True := trivial
theorem PySem.W.Fast.tw2627984346626558326 : True := trivial
theorem PySem.W.Fast.tw2118141222776746865 : True := trivial
theorem PySem.W.Fast.tw16752143609539240740 : True := trivial
theorem PySem.W.Fast.tw12170303376835216750 : True := trivial
theorem PySem.W.Fast.tw183835017167291270 : True := trivial
theorem PySem.W.Fast.tw16873187988247708562 : True := trivial
theorem PySem.W.Fast.tw3149940706203789266 : True := trivial
theorem PySem.W.Fast.tw4075660801711882420 : True := trivial
theorem PySem.W.Fast.tw5082074563857973206 : True := trivial
theorem PySem.W.Fast.tw6517296806544964722 : True := trivial
theorem PySem.W.Fast.tw5565278806992967083 : True := trivial
theorem PySem.W.Fast.tw14096952598973939363 : True := trivial
theorem PySem.W.Fast.tw15823609455315575823 : True := trivial
theorem PySem.W.Fast.tw8432684481940611981 : True := trivial
theorem PySem.W.Fast.tw12898947447245864913 : True := trivial
theorem PySem.W.Fast.tw10040787053062605231 : True := trivial
theorem PySem.W.Fast.tw6426273055680023932 : True := trivial
theorem PySem.W.Fast.tw2460228577881660442 : True := trivial
theorem PySem.W.Fast.tw5189142188285759775 : True := trivial
theorem PySem.W.Fast.tw5303519439607764402 : True := trivial
theorem PySem.W.Fast.tw724751600484774222 : True := trivial
theorem PySem.W.Fast.tw5952267759425050802 : True := trivial
theorem PySem.W.Fast.tw2283851925072248500 : True := trivial
theorem PySem.W.Fast.tw17954471519018878134 : True := trivial
theorem PySem.W.Fast.tw4302124980754421698 : True := trivial
theorem PySem.W.Fast.tw2134368852220247820 : True := trivial
theorem PySem.W.Fast.tw2721586585765338809 : True := trivial
theorem PySem.W.Fast.tw11518781747449614426 : True := trivial
theorem PySem.W.Fast.tw12436211924289087317 : True := trivial
theorem PySem.W.Fast.tw5143631309655554476 : True := trivial
theorem PySem.W.Fast.tw11588390666370768167 : True := trivial
theorem PySem.W.Fast.tw12472836147817038354 : True := trivial
theorem PySem.W.Fast.tw6179359751918216688 : True := trivial
theorem PySem.W.Fast.tw6789855027759293466 : True := trivial
theorem PySem.W.Fast.tw9458956999447867950 : True := trivial
theorem PySem.W.Fast.tw16280195873916505411 : True := trivial
theorem PySem.W.Fast.tw5529568453561195837 : True := trivial
theorem PySem.W.Fast.tw5923252988546675246 : True := trivial
theorem PySem.W.Fast.tw14909702598903578594 : True := trivial
theorem PySem.W.Fast.tw12182807814244774211 : True := trivial
theorem PySem.W.Fast.tw667198328695590252 : True := trivial
theorem PySem.W.Fast.tw7094674258960923220 : True := trivial
theorem PySem.W.Fast.tw13314330512976039754 : True := trivial
theorem PySem.W.Fast.tw148260917463534702 : True := trivial
theorem PySem.W.Fast.tw16127339712140622707 : True := trivial
theorem PySem.W.Fast.tw830924265138556478 : True := trivial
theorem PySem.W.Fast.tw8796240567053077481 : True := trivial
theorem PySem.W.Fast.tw4966893808263662355 : True := trivial
theorem PySem.W.Fast.tw10919533547850550483 : True := trivial
theorem PySem.W.Fast.tw2506853364499732696 : True := trivial
theorem PySem.W.Fast.tw11817470609975844035 : True := trivial
theorem PySem.W.Fast.tw1574873078441994576 : True := trivial
theorem PySem.W.Fast.tw14981143343336467331 : True := trivial
theorem PySem.W.Fast.tw17679261114430710190 : True := trivial
theorem PySem.W.Fast.tw3760573745983256773 : True := trivial
theorem PySem.W.Fast.tw196644378293983589 : True := trivial
theorem PySem.W.Fast.tw2354101950205528012 : True := trivial
theorem PySem.W.Fast.tw16439824349840649037 : True := trivial
theorem PySem.W.Fast.tw16233909434411415858 : True := trivial
theorem PySem.W.Fast.tw14957318262639276076 : True := trivial
theorem PySem.W.Fast.tw2334299552400917057 : True := trivial
theorem PySem.W.Fast.tw16339471991904476338 : True := trivial
theorem PySem.W.Fast.tw17280976486791472633 : True := trivial
theorem PySem.W.Fast.tw14323765505736481980 : True := trivial
theorem PySem.W.Fast.tw5310036984924271277 : True := trivial
theorem PySem.W.Fast.tw6993175162768986339 : True := trivial
theorem PySem.W.Fast.tw16593013826814733010 : True := trivial
theorem PySem.W.Fast.tw7057405563618977329 : True := trivial
theorem PySem.W.Fast.tw15490439104401381959 : True := trivial
theorem PySem.W.Fast.tw16374537267813192141 : True := trivial
theorem PySem.W.Fast.tw16643706677886111943 : True := trivial
theorem PySem.W.Fast.tw10887116778572429059 : True := trivial
theorem PySem.W.Fast.tw3433653886696886423 : True := trivial
theorem PySem.W.Fast.tw1419416864934026935 : True := trivial
theorem PySem.W.Fast.tw894076849921957361 : True := trivial
theorem PySem.W.Fast.tw9300948228871686676 : True := trivial
theorem PySem.W.Fast.tw10323183001455561277 : True := trivial
theorem PySem.W.Fast.tw3424931102881643321 : True := trivial
theorem PySem.W.Fast.tw9219426015542480343 : True := trivial
theorem PySem.W.Fast.tw1631149150583789468 : True := trivial
theorem PySem.W.Fast.tw5349121933718820234 : True := trivial
theorem PySem.W.Fast.tw2735471455948067141 : True := trivial
theorem PySem.W.Fast.tw9136488742655976645 : True := trivial
theorem PySem.W.Fast.tw3365010085382643294 : True := trivial
theorem PySem.W.Fast.tw15919542637913265678 : True := trivial
theorem PySem.W.Fast.tw16645262185327669138 : True := trivial
theorem PySem.W.Fast.tw15980859228951719591 : True := trivial
theorem PySem.W.Fast.tw17532440430192770315 : True := trivial
theorem PySem.W.Fast.tw4665496328224945229 : True := trivial
theorem PySem.W.Fast.tw10885399304501877467 : True := trivial
theorem PySem.W.Fast.tw11825729669827539873 : True := trivial
theorem PySem.W.Fast.tw2478078296215019888 : True := trivial
theorem PySem.W.Fast.tw2611137233208623240 : True := trivial
theorem PySem.W.Fast.tw15773981995205291829 : True := trivial
theorem PySem.W.Fast.tw1102190903223815498 : True := trivial
theorem PySem.W.Fast.tw8206430501311747189 : True := trivial
theorem PySem.W.Fast.tw16758808235637498351 : True := trivial
theorem PySem.W.Fast.tw8540232549379673566 : True := trivial
theorem PySem.W.Fast.tw3105397867545767578 : True := trivial
theorem PySem.W.Fast.tw1402947280878808549 : True := trivial
theorem PySem.W.Fast.tw10028428298569065181 : True := trivial
theorem PySem.W.Fast.tw16296994325663420285 : True := trivial
theorem PySem.W.Fast.tw3976722010076183465 : True := trivial
theorem PySem.W.Fast.tw12227490674122928909 : True := trivial
theorem PySem.W.Fast.tw1258299570235058372 : True := trivial
theorem PySem.W.Fast.tw6909570525239066004 : True := trivial
theorem PySem.W.Fast.tw13833065179229638619 : True := trivial
theorem PySem.W.Fast.tw6722154040420286063 : True := trivial
theorem PySem.W.Fast.tw17853915177807527196 : True := trivial
theorem PySem.W.Fast.tw9504726810853072989 : True := trivial
theorem PySem.W.Fast.tw2370070277545300124 : True := trivial
theorem PySem.W.Fast.tw16846860572762119324 : True := trivial
theorem PySem.W.Fast.tw18410474027866654770 : True := trivial
theorem PySem.W.Fast.tw17672482021469178181 : True := trivial
theorem PySem.W.Fast.tw5698774287046732500 : True := trivial
theorem PySem.W.Fast.tw5396446701170858492 : True := trivial
theorem PySem.W.Fast.tw3972328310683599613 : True := trivial
theorem PySem.W.Fast.tw6679490504615227074 : True := trivial
theorem PySem.W.Fast.tw8802822988693486460 : True := trivial
theorem PySem.W.Fast.tw4936483359421988267 : True := trivial
theorem PySem.W.Fast.tw3327986453032591115 : True := trivial
theorem PySem.W.Fast.tw9763268239775435451 : True := trivial
theorem PySem.W.Fast.tw3695515675974049574 : True := trivial
theorem PySem.W.Fast.tw18163462532019968843 : True := trivial
theorem PySem.W.Fast.tw14168537005229113720 : True := trivial
theorem PySem.W.Fast.tw13294325848734340343 : True := trivial
theorem PySem.W.Fast.tw5697894365363955025 : True := trivial
theorem PySem.W.Fast.tw2037417660504910701 : True := trivial
theorem PySem.W.Fast.tw7392212959928792091 : True := trivial
theorem PySem.W.Fast.tw8693227569615203950 : True := trivial
theorem PySem.W.Fast.tw3442601649717412197 : True := trivial
theorem PySem.W.Fast.tw17000756265888016 : True := trivial
theorem PySem.W.Fast.tw7582166717755450365 : True := trivial
theorem PySem.W.Fast.tw14821650378409806113 : True := trivial
theorem PySem.W.Fast.tw932993149863042379 : True := trivial
theorem PySem.W.Fast.tw5512085447785999860 : True := trivial
theorem PySem.W.Fast.tw8753696776887207221 : True := trivial
theorem PySem.W.Fast.tw6734666201756169186 : True := trivial
theorem PySem.W.Fast.tw6580340599500149305 : True := trivial
theorem PySem.W.Fast.tw3264259588550801142 : True := trivial
theorem PySem.W.Fast.tw11462045893675790159 : True := trivial
theorem PySem.W.Fast.tw13424232207471783386 : True := trivial
theorem PySem.W.Fast.tw18263319221461684349 : True := trivial
theorem PySem.W.Fast.tw6380047634161181297 : True := trivial
theorem PySem.W.Fast.tw13678640442995254988 : True := trivial
theorem PySem.W.Fast.tw17596809139577655471 : True := trivial
theorem PySem.W.Fast.tw16417370028952169744 : True := trivial
theorem PySem.W.Fast.tw11543547407058413889 : True := trivial
theorem PySem.W.Fast.tw3536357697601684980 : True := trivial
theorem PySem.W.Fast.tw3256587380925597060 : True := trivial
theorem PySem.W.Fast.tw13925586954763233925 : True := trivial
theorem PySem.W.Fast.tw6357409834272390260 : True := trivial
theorem PySem.W.Fast.tw3558216917135427349 : True := trivial
theorem PySem.W.Fast.tw15965015591981942514 : True := trivial
theorem PySem.W.Fast.tw1886563365779066154 : True := trivial
theorem PySem.W.Fast.tw11161088081135249708 : True := trivial
theorem PySem.W.Fast.tw7405434945208526273 : True := trivial
theorem PySem.W.Fast.tw2314638664359121040 : True := trivial
theorem PySem.W.Fast.tw1702518465993881591 : True := trivial
theorem PySem.W.Fast.tw6291368078380397288 : True := trivial
theorem PySem.W.Fast.tw16729788964589934307 : True := trivial
theorem PySem.W.Fast.tw3768068617246420682 : True := trivial
theorem PySem.W.Fast.tw4549333791460862111 : True := trivial
theorem PySem.W.Fast.tw17027947056734134637 : True := trivial
theorem PySem.W.Fast.tw6019396324639902685 : True := trivial
theorem PySem.W.Fast.tw5720267713326709755 : True := trivial
theorem PySem.W.Fast.tw2401699919119007470 : True := trivial
theorem PySem.W.Fast.tw1085346719588807367 : True := trivial
theorem PySem.W.Fast.tw8253183596043897158 : True := trivial
theorem PySem.W.Fast.tw5862295025349918931 : True := trivial
theorem PySem.W.Fast.tw6363645014702824404 : True := trivial
theorem PySem.W.Fast.tw5425108064043664162 : True := trivial
theorem PySem.W.Fast.tw13725850141900786883 : True := trivial
theorem PySem.W.Fast.tw17001327861769816259 : True := trivial
theorem PySem.W.Fast.tw9537544019596298400 : True := trivial
theorem PySem.W.Fast.tw7969621273614311199 : True := trivial
theorem PySem.W.Fast.tw14433975572909055671 : True := trivial
theorem PySem.W.Fast.tw14971970265804392439 : True := trivial
theorem PySem.W.Fast.tw3094477031063562474 : True := trivial
theorem PySem.W.Fast.tw17100903815162463580 : True := trivial
theorem PySem.W.Fast.tw15066959818950650227 : True := trivial
theorem PySem.W.Fast.tw14214133299417103183 : True := trivial
theorem PySem.W.Fast.tw4090926877573551719 : True := trivial
theorem PySem.W.Fast.tw9577309144901391297 : True := trivial
theorem PySem.W.Fast.tw15542691292777871779 : True := trivial
theorem PySem.W.Fast.tw12813236842856870187 : True := trivial
theorem PySem.W.Fast.tw13335737130258781183 : True := trivial
theorem PySem.W.Fast.tw16942194440817826258 : True := trivial
theorem PySem.W.Fast.tw5950129339639070837 : True := trivial
theorem PySem.W.Fast.tw1156252341971683116 : True := trivial
theorem PySem.W.Fast.tw7258234576362860186 : True := trivial
theorem PySem.W.Fast.tw15879502402284234768 : True := trivial
theorem PySem.W.Fast.tw5605001883878237886 : True := trivial
theorem PySem.W.Fast.tw7987952416473584550 : True := trivial
theorem PySem.W.Fast.tw3196378941336150401 : True := trivial
theorem PySem.W.Fast.tw12644280186354674768 : True := trivial
theorem PySem.W.Fast.tw5450187663091677483 : True := trivial
theorem PySem.W.Fast.tw6519424955469430661 : True := trivial
theorem PySem.W.Fast.tw14907048974825807369 : True := trivial
theorem PySem.W.Fast.tw9151444980202551346 : True := trivial
theorem PySem.W.Fast.tw313226197891681235 : True := trivial
theorem PySem.W.Fast.tw16018607276475445134 : True := trivial
theorem PySem.W.Fast.tw15034313371233782410 : True := trivial
theorem PySem.W.Fast.tw3152983702415266003 : True := trivial
theorem PySem.W.Fast.tw3436264866546951355 : True := trivial
theorem PySem.W.Fast.tw9455686188066324210 : True := trivial
theorem PySem.W.Fast.tw6944952908185719654 : True := trivial
theorem PySem.W.Fast.tw10942035263794033107 : True := trivial
theorem PySem.W.Fast.tw1706496860858754268 : True := trivial
theorem PySem.W.Fast.tw11108263761283441063 : True := trivial
theorem PySem.W.Fast.tw2862820112641550484 : True := trivial
theorem PySem.W.Fast.tw5289962621202845349 : True := trivial
theorem PySem.W.Fast.tw8474383852179026721 : True := trivial
theorem PySem.W.Fast.tw12488000419048109807 : True := trivial
theorem PySem.W.Fast.tw8125055898148337911 : True := trivial
theorem PySem.W.Fast.tw7269565832213808900 : True := trivial
theorem PySem.W.Fast.tw13776390136698705113 : True := trivial
theorem PySem.W.Fast.tw10797649063328284778 : True := trivial
theorem PySem.W.Fast.tw11625766737575182897 : True := trivial
theorem PySem.W.Fast.tw7503421922109321716 : True := trivial
theorem PySem.W.Fast.tw6550987210724342151 : True := trivial
theorem PySem.W.Fast.tw17238727255148662236 : True := trivial
theorem PySem.W.Fast.tw1210750091971509897 : True := trivial
theorem PySem.W.Fast.tw8075568018651887793 : True := trivial
theorem PySem.W.Fast.tw11186114360453789277 : True := trivial
theorem PySem.W.Fast.tw900395245841561262 : True := trivial
theorem PySem.W.Fast.tw9917628215930124269 : True := trivial
theorem PySem.W.Fast.tw6434265647005701932 : True := trivial
theorem PySem.W.Fast.tw11445135464325071761 : True := trivial
theorem PySem.W.Fast.tw4921902886906138986 : True := trivial
theorem PySem.W.Fast.tw716658179208862652 : True := trivial
theorem PySem.W.Fast.tw7098571738820278039 : True := trivial
theorem PySem.W.Fast.tw6891000109920058784 : True := trivial
theorem PySem.W.Fast.tw7726579757181526230 : True := trivial
theorem PySem.W.Fast.tw14305139224198610471 : True := trivial
theorem PySem.W.Fast.tw6801968546669101340 : True := trivial
theorem PySem.W.Fast.tw1993567047419047990 : True := trivial
theorem PySem.W.Fast.tw3209381107111851631 : True := trivial
theorem PySem.W.Fast.tw12945451867199242903 : True := trivial
theorem PySem.W.Fast.tw8098380416015320538 : True := trivial
theorem PySem.W.Fast.tw4691851695120001716 : True := trivial
theorem PySem.W.Fast.tw11790162104776037713 : True := trivial
theorem PySem.W.Fast.tw16874561944515371726 : True := trivial
theorem PySem.W.Fast.tw17325535178939296128 : True := trivial
theorem PySem.W.Fast.tw7401281599722004195 : True := trivial
theorem PySem.W.Fast.tw6127375697748050860 : True := trivial
theorem PySem.W.Fast.tw4525517667737911620 : True := trivial
theorem PySem.W.Fast.tw14389334442490810641 : True := trivial
theorem PySem.W.Fast.tw9265879793445154701 : True := trivial
theorem PySem.W.Fast.tw15247426752500302083 : True := trivial
theorem PySem.W.Fast.tw17026713947507217902 : True := trivial
theorem PySem.W.Fast.tw4769018279307018242 : True := trivial
theorem PySem.W.Fast.tw13471316229770301743 : True := trivial
theorem PySem.W.Fast.tw12224578244612797663 : True := trivial
theorem PySem.W.Fast.tw12128325577817847261 : True := trivial
theorem PySem.W.Fast.tw18283703058932287227 : True := trivial
theorem PySem.W.Fast.tw3865406201487662470 : True := trivial
theorem PySem.W.Fast.tw12095823642532355627 : True := trivial
theorem PySem.W.Fast.tw5386766301290243201 : True := trivial
theorem PySem.W.Fast.tw16389463045199867410 : True := trivial
theorem PySem.W.Fast.tw16697116713213952808 : True := trivial
theorem PySem.W.Fast.tw608726401823008365 : True := trivial
theorem PySem.W.Fast.tw1536587703002861866 : True := trivial
theorem PySem.W.Fast.tw6148621092414575339 : True := trivial
theorem PySem.W.Fast.tw878741703135273975 : True := trivial
theorem PySem.W.Fast.tw5345256250457102556 : True := trivial
theorem PySem.W.Fast.tw9281714027785469542 : True := trivial
theorem PySem.W.Fast.tw5248340912204065574 : True := trivial
theorem PySem.W.Fast.tw14097648870716263351 : True := trivial
theorem PySem.W.Fast.tw1962928258387122110 : True := trivial
theorem PySem.W.Fast.tw16241802466949684156 : True := trivial
theorem PySem.W.Fast.tw9165568632223901487 : True := trivial
theorem PySem.W.Fast.tw4630116404320636979 : True := trivial
theorem PySem.W.Fast.tw5853609219237828028 : True := trivial
theorem PySem.W.Fast.tw6059929106960060952 : True := trivial
theorem PySem.W.Fast.tw4904739604578439355 : True := trivial
theorem PySem.W.Fast.tw1333364371103165705 : True := trivial
theorem PySem.W.Fast.tw1204117194425446250 : True := trivial
theorem PySem.W.Fast.tw9673203406766833760 : True := trivial
theorem PySem.W.Fast.tw6662432510661729299 : True := trivial
theorem PySem.W.Fast.tw12237943961548833269 : True := trivial
theorem PySem.W.Fast.tw16369446117885005094 : True := trivial
theorem PySem.W.Fast.tw2922074901204462755 : True := trivial
theorem PySem.W.Fast.tw13642483538084851733 : True := trivial
theorem PySem.W.Fast.tw3373567504368509048 : True := trivial
theorem PySem.W.Fast.tw10767066097796618615 : True := trivial
theorem PySem.W.Fast.tw15663404670287596823 : True := trivial
theorem PySem.W.Fast.tw14017202250969351071 : True := trivial
theorem PySem.W.Fast.tw8603108125212654177 : True := trivial
theorem PySem.W.Fast.tw11994158751524154303 : True := trivial
theorem PySem.W.Fast.tw6214688769961185500 : True := trivial
theorem PySem.W.Fast.tw12583517263105394323 : True := trivial
theorem PySem.W.Fast.tw17300597898927385350 : True := trivial
theorem PySem.W.Fast.tw15199281503961881116 : True := trivial
theorem PySem.W.Fast.tw4039474712603431140 : True := trivial
theorem PySem.W.Fast.tw13615603153576403970 : True := trivial
theorem PySem.W.Fast.tw17554001833073541016 : True := trivial
theorem PySem.W.Fast.tw8881496252177385917 : True := trivial
theorem PySem.W.Fast.tw1218959903707654005 : True := trivial
theorem PySem.W.Fast.tw4187477659947935285 : True := trivial
theorem PySem.W.Fast.tw11863081143760314161 : True := trivial
theorem PySem.W.Fast.tw11838138170533393997 : True := trivial
theorem PySem.W.Fast.tw17295947923314359676 : True := trivial
theorem PySem.W.Fast.tw15781324953245214433 : True := trivial
theorem PySem.W.Fast.tw7483462131439158144 : True := trivial
theorem PySem.W.Fast.tw10205541121877940668 : True := trivial
theorem PySem.W.Fast.tw7299303143086499733 : True := trivial
theorem PySem.W.Fast.tw16432479971616331241 : True := trivial
theorem PySem.W.Fast.tw9575731206691268911 : True := trivial
theorem PySem.W.Fast.tw482417222145425773 : True := trivial
theorem PySem.W.Fast.tw5026404672973973886 : True := trivial
theorem PySem.W.Fast.tw7365555872484859036 : True := trivial
theorem PySem.W.Fast.tw12809422525583811893 : True := trivial
theorem PySem.W.Fast.tw14615009949319019899 : True := trivial
theorem PySem.W.Fast.tw16916688483869632129 : True := trivial
theorem PySem.W.Fast.tw10042830170769951172 : True := trivial
theorem PySem.W.Fast.tw8703263022893421829 : True := trivial
theorem PySem.W.Fast.tw1257650718994608863 : True := trivial
theorem PySem.W.Fast.tw7561037823649445926 : True := trivial
theorem PySem.W.Fast.tw13169248704851481478 : True := trivial
theorem PySem.W.Fast.tw8017206721242287953 : True := trivial
theorem PySem.W.Fast.tw3325841961599345399 : True := trivial
theorem PySem.W.Fast.tw921073385446354868 : True := trivial
theorem PySem.W.Fast.tw9236875199018929784 : True := trivial
theorem PySem.W.Fast.tw1620339239838986703 : True := trivial
theorem PySem.W.Fast.tw12945968074294007009 : True := trivial
theorem PySem.W.Fast.tw14553827428707814869 : True := trivial
theorem PySem.W.Fast.tw3039592710220408265 : True := trivial
theorem PySem.W.Fast.tw4575980220486274672 : True := trivial
theorem PySem.W.Fast.tw9492235034089005946 : True := trivial
theorem PySem.W.Fast.tw2660918139993853925 : True := trivial
theorem PySem.W.Fast.tw558745408833754511 : True := trivial
theorem PySem.W.Fast.tw7581352650102555174 : True := trivial
theorem PySem.W.Fast.tw10833955939284561965 : True := trivial
theorem PySem.W.Fast.tw13141144453892091621 : True := trivial
theorem PySem.W.Fast.tw2370425770031549630 : True := trivial
theorem PySem.W.Fast.tw9948023125614773506 : True := trivial
theorem PySem.W.Fast.tw3589498200047981816 : True := trivial
theorem PySem.W.Fast.tw4933834842325187142 : True := trivial
theorem PySem.W.Fast.tw563124612126607214 : True := trivial
theorem PySem.W.Fast.tw1916944219915559503 : True := trivial
theorem PySem.W.Fast.tw578555737997480806 : True := trivial
theorem PySem.W.Fast.tw3118938333895590913 : True := trivial
theorem PySem.W.Fast.tw721709456127091705 : True := trivial
theorem PySem.W.Fast.tw16180483070735683940 : True := trivial
theorem PySem.W.Fast.tw13903129631018457399 : True := trivial
theorem PySem.W.Fast.tw16868308631531271701 : True := trivial
theorem PySem.W.Fast.tw17230556039016184743 : True := trivial
theorem PySem.W.Fast.tw10093032338203421213 : True := trivial
theorem PySem.W.Fast.tw17730428716208468724 : True := trivial
theorem PySem.W.Fast.tw9794667896261083176 : True := trivial
theorem PySem.W.Fast.tw1414301608579184545 : True := trivial
theorem PySem.W.Fast.tw10566222408779648918 : True := trivial
theorem PySem.W.Fast.tw14223099787259518943 : True := trivial
theorem PySem.W.Fast.tw8389248881573145916 : True := trivial
theorem PySem.W.Fast.tw2569364866550412066 : True := trivial
theorem PySem.W.Fast.tw17018628822417861297 : True := trivial
theorem PySem.W.Fast.tw8385612375773290118 : True := trivial
theorem PySem.W.Fast.tw9515652053505349548 : True := trivial
theorem PySem.W.Fast.tw15475462885187679331 : True := trivial
theorem PySem.W.Fast.tw3636048126100218174 : True := trivial
theorem PySem.W.Fast.tw7641510929779896126 : True := trivial
theorem PySem.W.Fast.tw16723424844129597499 : True := trivial
theorem PySem.W.Fast.tw10846213317406478298 : True := trivial
theorem PySem.W.Fast.tw12064662690394058248 : True := trivial
theorem PySem.W.Fast.tw10964334890339321822 : True := trivial
theorem PySem.W.Fast.tw5706481520468235054 : True := trivial
theorem PySem.W.Fast.tw12177639751122801600 : True := trivial
theorem PySem.W.Fast.tw11985326045990495214 : True := trivial
theorem PySem.W.Fast.tw18253757678009453241 : True := trivial
theorem PySem.W.Fast.tw10709196673778178906 : True := trivial
theorem PySem.W.Fast.tw5925582254088234700 : True := trivial
theorem PySem.W.Fast.tw11796506867022685745 : True := trivial
theorem PySem.W.Fast.tw9076128300344869771 : True := trivial
theorem PySem.W.Fast.tw12477758415327278626 : True := trivial
theorem PySem.W.Fast.tw6929956602132211858 : True := trivial
theorem PySem.W.Fast.tw12832791649633735192 : True := trivial
theorem PySem.W.Fast.tw7461879971939330490 : True := trivial
theorem PySem.W.Fast.tw18126140380344562322 : True := trivial
theorem PySem.W.Fast.tw17020146562604978829 : True := trivial
theorem PySem.W.Fast.tw16979880578912567463 : True := trivial
theorem PySem.W.Fast.tw13236226663087606529 : True := trivial
theorem PySem.W.Fast.tw12981051755390344553 : True := trivial
theorem PySem.W.Fast.tw17057272898397164401 : True := trivial
theorem PySem.W.Fast.tw17815586953681464072 : True := trivial
theorem PySem.W.Fast.tw2143730078073651798 : True := trivial
theorem PySem.W.Fast.tw325292655437039998 : True := trivial
theorem PySem.W.Fast.tw7783732958741208154 : True := trivial
theorem PySem.W.Fast.tw178441218286455893 : True := trivial
theorem PySem.W.Fast.tw1107438419126420414 : True := trivial
theorem PySem.W.Fast.tw12973657651903071711 : True := trivial
theorem PySem.W.Fast.tw12392613427281201732 : True := trivial
theorem PySem.W.Fast.tw12877114100897624224 : True := trivial
theorem PySem.W.Fast.tw392140993173905013 : True := trivial
theorem PySem.W.Fast.tw18056578402003937789 : True := trivial
theorem PySem.W.Fast.tw10352308551163946355 : True := trivial
theorem PySem.W.Fast.tw15983881195869794717 : True := trivial
theorem PySem.W.Fast.tw9868982950595657695 : True := trivial
theorem PySem.W.Fast.tw14934708107589980039 : True := trivial
theorem PySem.W.Fast.tw7286323032743288035 : True := trivial
theorem PySem.W.Fast.tw13156168479132978002 : True := trivial
theorem PySem.W.Fast.tw10029231156530900338 : True := trivial
theorem PySem.W.Fast.tw15157221202141545114 : True := trivial
theorem PySem.W.Fast.tw7842807204330285214 : True := trivial
theorem PySem.W.Fast.tw10727534119236929211 : True := trivial
theorem PySem.W.Fast.tw8119918657739134586 : True := trivial
theorem PySem.W.Fast.tw17919728810627054236 : True := trivial
theorem PySem.W.Fast.tw8488268690174267210 : True := trivial
theorem PySem.W.Fast.tw10455430044892516648 : True := trivial
theorem PySem.W.Fast.tw15736541856241217950 : True := trivial
theorem PySem.W.Fast.tw11636919720809706868 : True := trivial
theorem PySem.W.Fast.tw12371321757623732685 : True := trivial
theorem PySem.W.Fast.tw686183698351167624 : True := trivial
theorem PySem.W.Fast.tw9087420756778563785 : True := trivial
theorem PySem.W.Fast.tw5315457868209417068 : True := trivial
theorem PySem.W.Fast.tw11892598404827812706 : True := trivial
theorem PySem.W.Fast.tw8047484207015712433 : True := trivial
theorem PySem.W.Fast.tw383695940523520267 : True := trivial
theorem PySem.W.Fast.tw8537084889766193716 : True := trivial
theorem PySem.W.Fast.tw17606997530615825384 : True := trivial
theorem PySem.W.Fast.tw14588557730865908194 : True := trivial
theorem PySem.W.Fast.tw10719484529398299949 : True := trivial
theorem PySem.W.Fast.tw14870196432650325839 : True := trivial
theorem PySem.W.Fast.tw2110668173088178060 : True := trivial
theorem PySem.W.Fast.tw9720828393056574044 : True := trivial
theorem PySem.W.Fast.tw17497748084772794779 : True := trivial
theorem PySem.W.Fast.tw16292439048969090190 : True := trivial
theorem PySem.W.Fast.tw4071324889030633612 : True := trivial
theorem PySem.W.Fast.tw9236379625843700516 : True := trivial
theorem PySem.W.Fast.tw12726346659333912481 : True := trivial
theorem PySem.W.Fast.tw5423003317807263696 : True := trivial
theorem PySem.W.Fast.tw3131671291697673992 : True := trivial
theorem PySem.W.Fast.tw396607853666888187 : True := trivial
theorem PySem.W.Fast.tw662354867322794072 : True := trivial
theorem PySem.W.Fast.tw272414042388314806 : True := trivial
theorem PySem.W.Fast.tw15112985482279097393 : True := trivial
theorem PySem.W.Fast.tw10970087489707964778 : True := trivial
theorem PySem.W.Fast.tw7562206459401802206 : True := trivial
theorem PySem.W.Fast.tw8328094057196393916 : True := trivial
theorem PySem.W.Fast.tw17971231442638086135 : True := trivial
theorem PySem.W.Fast.tw12635297910168745909 : True := trivial
theorem PySem.W.Fast.tw14763704009068828915 : True := trivial
theorem PySem.W.Fast.tw3365093317950918147 : True := trivial
theorem PySem.W.Fast.tw18340240734955500558 : True := trivial
theorem PySem.W.Fast.tw4091194055036891139 : True := trivial
theorem PySem.W.Fast.tw1410096668721982599 : True := trivial
theorem PySem.W.Fast.tw2958062672499776758 : True := trivial
theorem PySem.W.Fast.tw7431591544816029494 : True := trivial
theorem PySem.W.Fast.tw12599741558188205749 : True := trivial
theorem PySem.W.Fast.tw13809362725867891129 : True := trivial
theorem PySem.W.Fast.tw13871001218405608335 : True := trivial
theorem PySem.W.Fast.tw8610040677353227653 : True := trivial
theorem PySem.W.Fast.tw16737559591592110954 : True := trivial
theorem PySem.W.Fast.tw1343220272319300887 : True := trivial
theorem PySem.W.Fast.tw13251646731365433171 : True := trivial
theorem PySem.W.Fast.tw13002492023102617099 : True := trivial
theorem PySem.W.Fast.tw8654737378357257675 : True := trivial
theorem PySem.W.Fast.tw4183877074749451670 : True := trivial
theorem PySem.W.Fast.tw1763209079605825380 : True := trivial
theorem PySem.W.Fast.tw8459811325457737761 : True := trivial
theorem PySem.W.Fast.tw16437185098154296904 : True := trivial
theorem PySem.W.Fast.tw13505292571300825877 : True := trivial
theorem PySem.W.Fast.tw13559156169165276386 : True := trivial
theorem PySem.W.Fast.tw6182678533730793537 : True := trivial
theorem PySem.W.Fast.tw13816233472422033322 : True := trivial
theorem PySem.W.Fast.tw3889259530307233657 : True := trivial
theorem PySem.W.Fast.tw6967401301877209104 : True := trivial
theorem PySem.W.Fast.tw3735880847841164279 : True := trivial
theorem PySem.W.Fast.tw3386650904741475044 : True := trivial
theorem PySem.W.Fast.tw11363912090873407280 : True := trivial
theorem PySem.W.Fast.tw2951486255847992690 : True := trivial
theorem PySem.W.Fast.tw3308210559937237381 : True := trivial
theorem PySem.W.Fast.tw12679591844961189642 : True := trivial
theorem PySem.W.Fast.tw12869064799731924824 : True := trivial
theorem PySem.W.Fast.tw9131251417149488404 : True := trivial
theorem PySem.W.Fast.tw16712280214892120555 : True := trivial
theorem PySem.W.Fast.tw11707371222683016368 : True := trivial
theorem PySem.W.Fast.tw14766643958189025262 : True := trivial
theorem PySem.W.Fast.tw12850107946570832962 : True := trivial
theorem PySem.W.Fast.tw15250204685079549951 : True := trivial
theorem PySem.W.Fast.tw4319011637217762917 : True := trivial
theorem PySem.W.Fast.tw1667231139898017245 : True := trivial
theorem PySem.W.Fast.tw4558998842232669794 : True := trivial
theorem PySem.W.Fast.tw4949472239710415697 : True := trivial
theorem PySem.W.Fast.tw7892128664451923741 : True := trivial
theorem PySem.W.Fast.tw12513138341781932208 : True := trivial
theorem PySem.W.Fast.tw17335170898614401699 : True := trivial
theorem PySem.W.Fast.tw3148276903521382524 : True := trivial
theorem PySem.W.Fast.tw11833646463918446649 : True := trivial
theorem PySem.W.Fast.tw347637069881736656 : True := trivial
theorem PySem.W.Fast.tw7469732015759309437 : True := trivial
theorem PySem.W.Fast.tw1481926694345511941 : True := trivial
theorem PySem.W.Fast.tw17988542015724977305 : True := trivial
theorem PySem.W.Fast.tw4318056027017086478 : True := trivial
theorem PySem.W.Fast.tw1638017585896720355 : True := trivial
theorem PySem.W.Fast.tw11543483234476862875 : True := trivial
theorem PySem.W.Fast.tw10819683100428557426 : True := trivial
theorem PySem.W.Fast.tw14427280190107063356 : True := trivial
theorem PySem.W.Fast.tw8400853705098224536 : True := trivial
theorem PySem.W.Fast.tw7733015712792483723 : True := trivial
theorem PySem.W.Fast.tw2883484788219351825 : True := trivial
theorem PySem.W.Fast.tw15103234261437856402 : True := trivial
theorem PySem.W.Fast.tw5646442142991981755 : True := trivial
theorem PySem.W.Fast.tw15067931366933112725 : True := trivial
theorem PySem.W.Fast.tw13252181687094117063 : True := trivial
theorem PySem.W.Fast.tw11036193050239951465 : True := trivial
theorem PySem.W.Fast.tw2302674139485633275 : True := trivial
theorem PySem.W.Fast.tw13896205201685373497 : True := trivial
theorem PySem.W.Fast.tw8783367066174898617 : True := trivial
theorem PySem.W.Fast.tw1495452243305574823 : True := trivial
theorem PySem.W.Fast.tw4824431525194463578 : True := trivial
theorem PySem.W.Fast.tw10487160056961263569 : True := trivial
theorem PySem.W.Fast.tw10058976618658966374 : True := trivial
theorem PySem.W.Fast.tw9951705424602377420 : True := trivial
theorem PySem.W.Fast.tw10030586065758793078 : True := trivial
theorem PySem.W.Fast.tw5994239182223829532 : True := trivial
theorem PySem.W.Fast.tw17765544955259793912 : True := trivial
theorem PySem.W.Fast.tw11957962974430299695 : True := trivial
theorem PySem.W.Fast.tw3777755567575978352 : True := trivial
theorem PySem.W.Fast.tw2039238271031011813 : True := trivial
theorem PySem.W.Fast.tw2078703811421203504 : True := trivial
theorem PySem.W.Fast.tw16326889199254633757 : True := trivial
theorem PySem.W.Fast.tw12577023982554244617 : True := trivial
theorem PySem.W.Fast.tw10706342367453228570 : True := trivial
theorem PySem.W.Fast.tw16289391198768371057 : True := trivial
theorem PySem.W.Fast.tw6448080314894763839 : True := trivial
theorem PySem.W.Fast.tw7957090006295546105 : True := trivial
theorem PySem.W.Fast.tw11277413387252134812 : True := trivial
theorem PySem.W.Fast.tw16148938690769344688 : True := trivial
theorem PySem.W.Fast.tw11495947367809530248 : True := trivial
theorem PySem.W.Fast.tw15542503528162795033 : True := trivial
theorem PySem.W.Fast.tw13951202360752479828 : True := trivial
theorem PySem.W.Fast.tw4679858250743294509 : True := trivial
theorem PySem.W.Fast.tw12329403913580668285 : True := trivial
theorem PySem.W.Fast.tw13329733208086693882 : True := trivial
theorem PySem.W.Fast.tw10460931487171540145 : True := trivial
theorem PySem.W.Fast.tw11707433790658880453 : True := trivial
theorem PySem.W.Fast.tw441327347791068078 : True := trivial
theorem PySem.W.Fast.tw2571919107429820419 : True := trivial
theorem PySem.W.Fast.tw17768419659990539469 : True := trivial
theorem PySem.W.Fast.tw5032809538720368765 : True := trivial
theorem PySem.W.Fast.tw9908251947323293946 : True := trivial
theorem PySem.W.Fast.tw18345786424863182364 : True := trivial
theorem PySem.W.Fast.tw505943868828395459 : True := trivial
theorem PySem.W.Fast.tw6624491594363574236 : True := trivial
theorem PySem.W.Fast.tw9407582987413476825 : True := trivial
theorem PySem.W.Fast.tw6792406925840432001 : True := trivial
theorem PySem.W.Fast.tw10670733350059645105 : True := trivial
theorem PySem.W.Fast.tw8588708647495961459 : True := trivial
theorem PySem.W.Fast.tw17520869792638436183 : True := trivial
theorem PySem.W.Fast.tw7276740287692124622 : True := trivial
theorem PySem.W.Fast.tw5555313912996828296 : True := trivial
theorem PySem.W.Fast.tw8800560270773162519 : True := trivial
theorem PySem.W.Fast.tw11890091197643236314 : True := trivial
theorem PySem.W.Fast.tw10314498396905981064 : True := trivial
theorem PySem.W.Fast.tw9626621113073979434 : True := trivial
theorem PySem.W.Fast.tw1092655722715705105 : True := trivial
theorem PySem.W.Fast.tw18188234029961486008 : True := trivial
theorem PySem.W.Fast.tw16644606511662114574 : True := trivial
theorem PySem.W.Fast.tw17814930658547583709 : True := trivial
theorem PySem.W.Fast.tw15766043655864335149 : True := trivial
theorem PySem.W.Fast.tw3142773779024712118 : True := trivial
theorem PySem.W.Fast.tw10977605838385248507 : True := trivial
theorem PySem.W.Fast.tw6012508502120743258 : True := trivial
theorem PySem.W.Fast.tw618205885557783147 : True := trivial
theorem PySem.W.Fast.tw14224011070414065920 : True := trivial
theorem PySem.W.Fast.tw17207840028585114417 : True := trivial
theorem PySem.W.Fast.tw6213141578215901147 : True := trivial
theorem PySem.W.Fast.tw13142473509193869113 : True := trivial
theorem PySem.W.Fast.tw5701610774189311196 : True := trivial
theorem PySem.W.Fast.tw6551367506479906963 : True := trivial
theorem PySem.W.Fast.tw11317593695737139937 : True := trivial
theorem PySem.W.Fast.tw6817277305950994716 : True := trivial
theorem PySem.W.Fast.tw16349216596472256690 : True := trivial
theorem PySem.W.Fast.tw17774800907425398282 : True := trivial
theorem PySem.W.Fast.tw7191607858210974391 : True := trivial
theorem PySem.W.Fast.tw17913803186225011329 : True := trivial
theorem PySem.W.Fast.tw6090905460779295987 : True := trivial
theorem PySem.W.Fast.tw11420187438672877268 : True := trivial
theorem PySem.W.Fast.tw12866136484021002089 : True := trivial
theorem PySem.W.Fast.tw9575948337506731703 : True := trivial
theorem PySem.W.Fast.tw5111356299099525756 : True := trivial
theorem PySem.W.Fast.tw16474492168511960337 : True := trivial
theorem PySem.W.Fast.tw9821368406582625841 : True := trivial
theorem PySem.W.Fast.tw12985358249318526461 : True := trivial
theorem PySem.W.Fast.tw14112274594779413971 : True := trivial
theorem PySem.W.Fast.tw11939915149646268982 : True := trivial
theorem PySem.W.Fast.tw8642067239939848140 : True := trivial
theorem PySem.W.Fast.tw17993156020533580102 : True := trivial
theorem PySem.W.Fast.tw13215998728584607739 : True := trivial
theorem PySem.W.Fast.tw5832503352825792928 : True := trivial
theorem PySem.W.Fast.tw18011898689540126615 : True := trivial
theorem PySem.W.Fast.tw14401720017095790664 : True := trivial
theorem PySem.W.Fast.tw17955133630450735404 : True := trivial
theorem PySem.W.Fast.tw4748654258956052638 : True := trivial
theorem PySem.W.Fast.tw7745614565497352828 : True := trivial
theorem PySem.W.Fast.tw2614552105083212210 : True := trivial
theorem PySem.W.Fast.tw535072334866317008 : True := trivial
theorem PySem.W.Fast.tw8732485361984058174 : True := trivial
theorem PySem.W.Fast.tw17537794083376710389 : True := trivial
theorem PySem.W.Fast.tw6683783046931543321 : True := trivial
theorem PySem.W.Fast.tw8727135674562949291 : True := trivial
theorem PySem.W.Fast.tw4797165386629745026 : True := trivial
theorem PySem.W.Fast.tw16189536214700107852 : True := trivial
theorem PySem.W.Fast.tw12022618010286034681 : True := trivial
theorem PySem.W.Fast.tw2599325451414397859 : True := trivial
theorem PySem.W.Fast.tw17434858337260393937 : True := trivial
theorem PySem.W.Fast.tw15271515629493726085 : True := trivial
theorem PySem.W.Fast.tw10057510723706494237 : True := trivial
theorem PySem.W.Fast.tw1305609685974793870 : True := trivial
theorem PySem.W.Fast.tw4989861115921178866 : True := trivial
theorem PySem.W.Fast.tw16648231224745350325 : True := trivial
theorem PySem.W.Fast.tw14979626087600564940 : True := trivial
theorem PySem.W.Fast.tw13606957523739123596 : True := trivial
theorem PySem.W.Fast.tw4242893501424385820 : True := trivial
theorem PySem.W.Fast.tw11452132507678324671 : True := trivial
theorem PySem.W.Fast.tw2408619945344806742 : True := trivial
theorem PySem.W.Fast.tw3560238982266916124 : True := trivial
theorem PySem.W.Fast.tw8424611434330503625 : True := trivial
theorem PySem.W.Fast.tw6125931036764729998 : True := trivial
theorem PySem.W.Fast.tw13900631225919944168 : True := trivial
theorem PySem.W.Fast.tw16223305294053301992 : True := trivial
theorem PySem.W.Fast.tw11882390891050353253 : True := trivial
theorem PySem.W.Fast.tw14023627001141898710 : True := trivial
theorem PySem.W.Fast.tw4299136966843209011 : True := trivial
theorem PySem.W.Fast.tw293829605474521371 : True := trivial
theorem PySem.W.Fast.tw9862997608875712007 : True := trivial
theorem PySem.W.Fast.tw4980102563643897964 : True := trivial
theorem PySem.W.Fast.tw9248541637817142097 : True := trivial
theorem PySem.W.Fast.tw15894407043143930727 : True := trivial
theorem PySem.W.Fast.tw18034167525097398909 : True := trivial
theorem PySem.W.Fast.tw6267220430429643429 : True := trivial
theorem PySem.W.Fast.tw18350638575300117064 : True := trivial
theorem PySem.W.Fast.tw16942504070071679284 : True := trivial
theorem PySem.W.Fast.tw12635813782599140982 : True := trivial
theorem PySem.W.Fast.tw7231524377534056507 : True := trivial
theorem PySem.W.Fast.tw3793695936567050837 : True := trivial
theorem PySem.W.Fast.tw12114495157272644582 : True := trivial
theorem PySem.W.Fast.tw15207642765257501584 : True := trivial
theorem PySem.W.Fast.tw15215539614974913122 : True := trivial
theorem PySem.W.Fast.tw13581749221687468397 : True := trivial
theorem PySem.W.Fast.tw1735007293439650466 : True := trivial
theorem PySem.W.Fast.tw5976474108018559520 : True := trivial
theorem PySem.W.Fast.tw3545756843259802059 : True := trivial
theorem PySem.W.Fast.tw11729385059970357855 : True := trivial
theorem PySem.W.Fast.tw14544052848187043789 : True := trivial
theorem PySem.W.Fast.tw13036272033356848781 : True := trivial
theorem PySem.W.Fast.tw11328821685186248670 : True := trivial
theorem PySem.W.Fast.tw930746551332336609 : True := trivial
theorem PySem.W.Fast.tw15025364365136419289 : True := trivial
theorem PySem.W.Fast.tw14326252917377295143 : True := trivial
theorem PySem.W.Fast.tw3825061337978711158 : True := trivial
theorem PySem.W.Fast.tw6654550962395885724 : True := trivial
theorem PySem.W.Fast.tw7543618554067911206 : True := trivial
theorem PySem.W.Fast.tw1393629259489396696 : True := trivial
theorem PySem.W.Fast.tw13404028037160507757 : True := trivial
theorem PySem.W.Fast.tw6245536207120538393 : True := trivial
theorem PySem.W.Fast.tw7229665172594901996 : True := trivial
theorem PySem.W.Fast.tw14185684948912167051 : True := trivial
theorem PySem.W.Fast.tw3470799630455053000 : True := trivial
theorem PySem.W.Fast.tw16414604833108395602 : True := trivial
theorem PySem.W.Fast.tw16349804527192203551 : True := trivial
theorem PySem.W.Fast.tw7074795694173733578 : True := trivial
theorem PySem.W.Fast.tw15450981722951097364 : True := trivial
theorem PySem.W.Fast.tw17015423121036801654 : True := trivial
theorem PySem.W.Fast.tw7788680626742099145 : True := trivial
theorem PySem.W.Fast.tw2504098582860672743 : True := trivial
theorem PySem.W.Fast.tw6028330955251095870 : True := trivial
theorem PySem.W.Fast.tw5200128776193632040 : True := trivial
theorem PySem.W.Fast.tw12450158673883907302 : True := trivial
theorem PySem.W.Fast.tw1377046205977697930 : True := trivial
theorem PySem.W.Fast.tw9564595351457756722 : True := trivial
theorem PySem.W.Fast.tw6380782515089751550 : True := trivial
theorem PySem.W.Fast.tw7323676302269181137 : True := trivial
theorem PySem.W.Fast.tw12359285113459375979 : True := trivial
theorem PySem.W.Fast.tw9305782018832362445 : True := trivial
theorem PySem.W.Fast.tw387338674003428930 : True := trivial
theorem PySem.W.Fast.tw17000458434675057986 : True := trivial
theorem PySem.W.Fast.tw15224661121926592747 : True := trivial
theorem PySem.W.Fast.tw7824674403005707151 : True := trivial
theorem PySem.W.Fast.tw5135500740108067664 : True := trivial
theorem PySem.W.Fast.tw2719445374943340272 : True := trivial
theorem PySem.W.Fast.tw16792545251062261874 : True := trivial
theorem PySem.W.Fast.tw3880421473898291048 : True := trivial
theorem PySem.W.Fast.tw15480198773659482676 : True := trivial
theorem PySem.W.Fast.tw17024950926791866790 : True := trivial
theorem PySem.W.Fast.tw9130231340562597213 : True := trivial
theorem PySem.W.Fast.tw2077871619930789226 : True := trivial
theorem PySem.W.Fast.tw14043711374191979534 : True := trivial
theorem PySem.W.Fast.tw1772237422875290029 : True := trivial
theorem PySem.W.Fast.tw7650934615059315214 : True := trivial
theorem PySem.W.Fast.tw16049961110935095269 : True := trivial
theorem PySem.W.Fast.tw11236458984494512445 : True := trivial
theorem PySem.W.Fast.tw10500077913531017323 : True := trivial
theorem PySem.W.Fast.tw9529234661008812162 : True := trivial
theorem PySem.W.Fast.tw17045043414572947948 : True := trivial
theorem PySem.W.Fast.tw1468114885665857710 : True := trivial
theorem PySem.W.Fast.tw18211773271919218964 : True := trivial
theorem PySem.W.Fast.tw6834602518627153040 : True := trivial
theorem PySem.W.Fast.tw9467589175468403638 : True := trivial
theorem PySem.W.Fast.tw4966674849315620570 : True := trivial
theorem PySem.W.Fast.tw8987815912523675519 : True := trivial
theorem PySem.W.Fast.tw4110589180456253056 : True := trivial
theorem PySem.W.Fast.tw10470071008263537045 : True := trivial
theorem PySem.W.Fast.tw17863021456227041891 : True := trivial
theorem PySem.W.Fast.tw117213463901210413 : True := trivial
theorem PySem.W.Fast.tw15742981410569661332 : True := trivial
theorem PySem.W.Fast.tw4775785305629353868 : True := trivial
theorem PySem.W.Fast.tw14530364306720264245 : True := trivial
theorem PySem.W.Fast.tw5902227825499142635 : True := trivial
theorem PySem.W.Fast.tw8989982439271903415 : True := trivial
theorem PySem.W.Fast.tw9413167413068371254 : True := trivial
theorem PySem.W.Fast.tw329819065673440000 : True := trivial
theorem PySem.W.Fast.tw2088544591296533915 : True := trivial
theorem PySem.W.Fast.tw9800571698397750058 : True := trivial
theorem PySem.W.Fast.tw11566699232636054958 : True := trivial
theorem PySem.W.Fast.tw15078596067121957158 : True := trivial
theorem PySem.W.Fast.tw17431367730909923944 : True := trivial
theorem PySem.W.Fast.tw6714822604882049554 : True := trivial
theorem PySem.W.Fast.tw10424941004445345732 : True := trivial
theorem PySem.W.Fast.tw16176465441171805009 : True := trivial
theorem PySem.W.Fast.tw9910355351051955638 : True := trivial
theorem PySem.W.Fast.tw9206804518496725263 : True := trivial
theorem PySem.W.Fast.tw8686407601681055034 : True := trivial
theorem PySem.W.Fast.tw13512673800721320934 : True := trivial
namespace Mine
set_option maxRecDepth 100000 in
set_option maxHeartbeats 8000000 in
open_top hd for PySem.Challenge.rw_sy0050_01
end Mine
end -- Hd4
namespace Mine
theorem top_off : True := by
  w_top off
  exact trivial
end Mine
section -- Ex1
open PySem PySem.W PySem.Calls PyProof.Rows PySem.Spec
set_option Elab.async false
set_option maxRecDepth 100000
namespace Mine
/-- the exception e, of class C, its own dict at de; its first five fields are vs -/
noncomputable def ExO (h : Heap) (e C de : Addr) (vs : Array Value) : Prop := ∃ oe, h.get? e = some oe ∧ oe.cls = .ref C ∧ oe.dict = some de ∧ oe.data = .fields vs
/-- e bears a traceback whose flight is fl -/
noncomputable def Trc (base : Heap) (e C de : Addr) (fl : Value) (h : Heap) : Prop :=
  ∃ vs T oT ts, ExO h e C de vs ∧ vs[1]? = some (.ref T) ∧ base.get? T = none ∧ T ≠ e ∧ h.get? T = some oT ∧ oT.data = .fields ts ∧ ts[3]? = some fl
/-- what stays of the heap: base, the frames, every object that is no record -/
noncomputable def Kept (base : Heap) (l : List Env) (h h' : Heap) : Prop := base.StaysIn h' ∧ h'.FunFrames base l ∧ h.UpToSlots h'

theorem ExO.update {h : Heap} {e C de : Addr} {vs : Array Value} (x : ExO h e C de vs) (f : Array Value → Array Value) : ExO (h.update e (Obj.mapFields f)) e C de (f vs) := by
  obtain ⟨oe, he, hc, hdd, hd⟩ := x
  have hd₃ := Obj.data_mapFields hd f
  refine ⟨_, Heap.get?_update_self (Obj.mapFields f) he (Obj.isFreed_of_fields hd₃), ?_, ?_, hd₃⟩
  · rw [Obj.cls_mapFields]; exact hc
  · obtain ⟨c, dd, dt, sl⟩ := oe
    cases hd
    exact hdd
theorem ExO.other {h h' : Heap} {e C de : Addr} {vs : Array Value} (x : ExO h e C de vs) (k : h'.get? e = h.get? e) : ExO h' e C de vs := by
  obtain ⟨oe, he, r⟩ := x
  exact ⟨oe, k.trans he, r⟩

section
variable {M : Model} {A : Around} {E : Value → Shared → Prop} {s : Shared} {base : Heap} {env : Env} {outer : List Env} {L e C de : Addr} {Q : Unit → Shared → Prop}

theorem entry_ex {vs : Array Value} {head : Value} {hadNext : Bool} (hfr : A.frames = some (env :: outer)) (hl : s.heap.FunFrames base (env :: outer)) (hf : env.frame = some L)
    (hkb : base.StaysIn s.heap) (hen : base.get? e = none) (hx : ExO s.heap e C de vs) (hsz : 1 < vs.size)
    (h : ∀ h', Kept base (env :: outer) s.heap h' → Trc base e C de (rawInt L) h' → Q () { s with heap := h' }) :
    wpAny M A (do let a ← frameOf env; let pl ← entryPlaceOf L hadNext; let b ← EntryCells.newEntry head a .none (rawInt L) .none pl; setField (.ref e) 1 b) Q E s := by
  obtain ⟨oe, he, hc, hdd, hd⟩ := hx
  have hene : e ∉ (env :: outer).filterMap (·.frame) := fun hm => by
    obtain ⟨_, o, ho, hnf⟩ := hl.mem hm
    rw [he] at ho; injection ho with ho; subst ho; exact hnf vs hd
  refine wpAny_bind (wpAny_frameOf_fun hfr hl hf fun h₁ hs₁ => ?_)
  refine wpAny_bind (wpAny_entryPlaceOf fun pl hpl => ?_)
  unfold EntryCells.newEntry newFields
  refine wpAny_bind (wpAny_newObj_type ?_ (hpl.sizeOk5 _ _ _ _ _))
  have he₁ : h₁.get? e = some oe := (hs₁.2.1 e hene).trans he
  have kb₁ : base.StaysIn h₁ := fun b o hbo => (hs₁.2.1 b fun hm => by rw [(hl.mem hm).1] at hbo; cases hbo).trans (hkb b o hbo)
  generalize hob : ({ cls := .type "traceback", dict := none, data := .fields ([head, .ref L, .none, rawInt L, .none] ++ (if pl.isEmpty then List.replicate 6 Value.none else pl)).toArray } : Obj) = ob
  have hTe : h₁.objs.size ≠ e := Nat.ne_of_gt (Heap.lt_size he₁)
  have hobd : ∃ ts, ob.data = .fields ts ∧ ts[3]? = some (rawInt L) := by
    subst hob
    exact ⟨_, rfl, by first | (simp; done) | (rcases hpl with rfl | ⟨_, _, _, _, _, _, _, rfl⟩ <;> simp)⟩
  have hobf : ob.isFreed = false := by subst hob; rfl
  have he₂ := Heap.get?_push_of_some (h := h₁) ob he₁
  refine wpAny_setField he₂ hd hsz (h _ ?_ ?_)
  · have keep : ∀ b o, b ≠ e → h₁.get? b = some o → ((h₁.push ob).update e (Obj.mapFields (·.setIfInBounds 1 (Value.ref h₁.objs.size)))).get? b = some o := fun b o hbe hb => by
      rw [Heap.get?_update_other _ _ (Ne.symm hbe)]
      exact Heap.get?_push_of_some _ hb
    have noRecord : ∀ b o, s.heap.get? b = some o → (∀ vs, o.data ≠ .fields vs) → b ≠ e := fun b o hb hnf q => by
      rw [q, he] at hb; injection hb with hb; subst hb; exact hnf vs hd
    refine ⟨fun b o hbo => keep b o (fun q => by rw [q, hen] at hbo; cases hbo) (kb₁ b o hbo), hl.of_keeps fun b o hb hnf => ?_, fun b o hb hnf => ?_⟩
    · obtain ⟨sl, hs⟩ := hs₁.2.2 b o hb
      exact ⟨_, keep b _ (noRecord b o hb hnf) hs, rfl⟩
    · obtain ⟨sl, hs⟩ := hs₁.2.2 b o hb
      exact ⟨sl, keep b _ (noRecord b o hb hnf) hs⟩
  · have X : ExO (h₁.push ob) e C de vs := ⟨oe, he₂, hc, hdd, hd⟩
    obtain ⟨ts, ht1, ht2⟩ := hobd
    refine ⟨_, h₁.objs.size, ob, ts, X.update _, by simp [hsz], kb₁.fresh, hTe, ?_, ht1, ht2⟩
    rw [Heap.get?_update_other _ _ (Ne.symm hTe)]
    exact Heap.get?_push_size _ hobf

theorem note_first {vs : Array Value} (hfr : A.frames = some (env :: outer)) (hl : s.heap.FunFrames base (env :: outer)) (hf : env.frame = some L)
    (hkb : base.StaysIn s.heap) (hen : base.get? e = none) (hx : ExO s.heap e C de vs) (h1 : vs[1]? = some .none)
    (h : ∀ h', Kept base (env :: outer) s.heap h' → Trc base e C de (rawInt L) h' → Q () { s with heap := h' }) : wpAny M A (noteFrame (.ref e) env) Q E s := by
  have hx' := hx
  obtain ⟨oe, he, hc, hdd, hd⟩ := hx
  unfold noteFrame
  simp only [hf]
  refine wpAny_bind (wpAny_field he hd h1 ?_)
  rw [if_neg (by decide)]
  exact entry_ex hfr hl hf hkb hen hx' (Array.getElem?_eq_some_iff.mp h1).1 h

theorem note_next (hfr : A.frames = some (env :: outer)) (hl : s.heap.FunFrames base (env :: outer)) (hf : env.frame = some L)
    (hkb : base.StaysIn s.heap) (hen : base.get? e = none) (hx : Trc base e C de .none s.heap)
    (h : ∀ h', Kept base (env :: outer) s.heap h' → Trc base e C de (rawInt L) h' → Q () { s with heap := h' }) : wpAny M A (noteFrame (.ref e) env) Q E s := by
  obtain ⟨vs, T, oT, ts, hx, h1, hnT, hTe, hT, hdT, h3⟩ := hx
  have hx' := hx
  obtain ⟨oe, he, hc, hdd, hd⟩ := hx
  unfold noteFrame
  simp only [hf]
  refine wpAny_bind (wpAny_field he hd h1 ?_)
  rw [if_pos (show (Value.ref T != Value.none) = true from by simp)]
  refine wpAny_bind (wpAny_field hT hdT h3 ?_)
  rw [if_neg (show ¬ ((Value.none == rawInt L) = true) from by simp [rawInt])]
  refine wpAny_bind (wpAny_setField hT hdT (Array.getElem?_eq_some_iff.mp h3).1 ?_)
  have other : ∀ b, b ≠ T → (s.heap.update T (Obj.mapFields (·.setIfInBounds 3 Value.none))).get? b = s.heap.get? b := fun b hb => Heap.get?_update_other _ _ (Ne.symm hb)
  have noRecord : ∀ b o, s.heap.get? b = some o → (∀ vs, o.data ≠ .fields vs) → b ≠ T := fun b o hb hnf q => by
    rw [q, hT] at hb; injection hb with hb; subst hb; exact hnf ts hdT
  refine entry_ex hfr (hl.of_keeps fun b o hb hnf => ⟨o, (other b (noRecord b o hb hnf)).trans hb, rfl⟩) hf
    (fun b o hbo => (other b fun q => by rw [q, hnT] at hbo; cases hbo).trans (hkb b o hbo)) hen (hx'.other (other e (Ne.symm hTe))) (Array.getElem?_eq_some_iff.mp h1).1
    fun h' ⟨x1, x2, x3⟩ x4 => h h' ⟨x1, x2, fun b o hb hnf => x3 b o ((other b (noRecord b o hb hnf)).trans hb) hnf⟩ x4

theorem flight_off {l : List Env} {fl : Value} (hkb : base.StaysIn s.heap) (hl : s.heap.FunFrames base l) (hx : Trc base e C de fl s.heap)
    (h : ∀ h', Kept base l s.heap h' → Trc base e C de .none h' → Q () { s with heap := h' }) : wpAny M A (setFlight (.ref e) none) Q E s := by
  obtain ⟨vs, T, oT, ts, hx, h1, hnT, hTe, hT, hdT, h3⟩ := hx
  have hx' := hx
  obtain ⟨oe, he, hc, hdd, hd⟩ := hx
  have hsz3 : 3 < ts.size := (Array.getElem?_eq_some_iff.mp h3).1
  have other : ∀ b, b ≠ T → (s.heap.update T (Obj.mapFields (·.setIfInBounds 3 ((none : Option Addr).elim Value.none fun f => rawInt f)))).get? b = s.heap.get? b :=
    fun b hb => Heap.get?_update_other _ _ (Ne.symm hb)
  have noRecord : ∀ b o, s.heap.get? b = some o → (∀ vs, o.data ≠ .fields vs) → b ≠ T := fun b o hb hnf q => by
    rw [q, hT] at hb; injection hb with hb; subst hb; exact hnf ts hdT
  unfold setFlight
  refine wpAny_bind (wpAny_field he hd h1 ?_)
  rw [if_pos (show (Value.ref T != Value.none) = true from by simp)]
  refine wpAny_setField hT hdT hsz3 (h _ ⟨fun b o hbo => (other b fun q => by rw [q, hnT] at hbo; cases hbo).trans (hkb b o hbo),
    hl.of_keeps fun b o hb hnf => ⟨o, (other b (noRecord b o hb hnf)).trans hb, rfl⟩, fun b o hb hnf => ⟨o.slots, (other b (noRecord b o hb hnf)).trans hb⟩⟩ ?_)
  exact ⟨vs, T, _, _, hx'.other (other e (Ne.symm hTe)), h1, hnT, hTe, Heap.get?_update_self _ hT (Obj.isFreed_of_fields (Obj.data_mapFields hdT _)), Obj.data_mapFields hdT _, by simp [hsz3]⟩
end
end Mine
end -- Ex1
section -- Ex2
open PySem PySem.W PySem.Calls PyProof.Rows PySem.Spec
set_option Elab.async false
set_option maxRecDepth 100000
namespace Mine
noncomputable abbrev CTok := Tok
/-- the own dict of a fault at place k -/
noncomputable def faultD (P : Params) (t1 : CTok) (mv : Value) (t2 : CTok) (k : Int) (tk : CTok) : Obj :=
  dictOf [⟨PyData.keyHash P (Str.ofString "message"), .str (Str.ofString "message") t1, mv⟩, ⟨PyData.keyHash P (Str.ofString "place"), .str (Str.ofString "place") t2, .int k tk⟩] 2

noncomputable abbrev MF (C : Addr) (g : Heap) (L : Addr) (m : Str → Option Value) (e : Addr) (news : List (Addr × Obj)) (h : Heap) (de : Addr) (oe : Obj) (vs : Array Value) (D : Obj) : Prop :=
  Fr g L h m ∧ News g L h ((e, oe) :: (de, D) :: news) ∧ oe.cls = .ref C ∧ oe.dict = some de ∧ oe.data = .fields vs ∧ vs[1]? = some .none ∧ (∀ q ∈ (de, D) :: news, q.1 ≠ e)

/-- a fault was just made in the frame L: the ledger holds it, its dict and the rest -/
noncomputable def MadeF (P : Params) (C : Addr) (g : Heap) (L : Addr) (m : Str → Option Value) (e : Addr) (k : Int) (news : List (Addr × Obj)) (h : Heap) : Prop :=
  ∃ de oe vs t1 mv t2 tk, MF C g L m e news h de oe vs (faultD P t1 mv t2 k tk)

noncomputable abbrev RF (C : Addr) (base G : Heap) (l : List Env) (e : Addr) (news : List (Addr × Obj)) (h B : Heap) (de : Addr) (D : Obj) : Prop :=
  base.StaysIn B ∧ (∀ b o, G.get? b = some o → b ∉ l.filterMap (·.frame) → B.get? b = some o) ∧
    (∀ q ∈ (de, D) :: news, B.get? q.1 = some q.2 ∧ G.get? q.1 = none ∧ base.get? q.1 = none) ∧
    B.StaysIn h ∧ B.get? e = none ∧ h.FunFrames B l ∧ Trc B e C de .none h

/-- a fault flies through the frames l -/
noncomputable def RaisedF (P : Params) (C : Addr) (base G : Heap) (l : List Env) (e : Addr) (k : Int) (news : List (Addr × Obj)) (h : Heap) : Prop :=
  ∃ B de t1 mv t2 tk, RF C base G l e news h B de (faultD P t1 mv t2 k tk)

section
variable {P : Params} {C : Addr} {base G : Heap} {l : List Env} {e : Addr} {k : Int} {news news' : List (Addr × Obj)} {h : Heap}
theorem RaisedF.el {X : Prop} (R : RaisedF P C base G l e k news h) (f : ∀ B de t1 mv t2 tk, base.StaysIn B → (∀ b o, G.get? b = some o → b ∉ l.filterMap (·.frame) → B.get? b = some o) →
    (∀ q ∈ (de, faultD P t1 mv t2 k tk) :: news, B.get? q.1 = some q.2 ∧ G.get? q.1 = none ∧ base.get? q.1 = none) → B.StaysIn h → B.get? e = none → h.FunFrames B l → Trc B e C de .none h → X) : X := by
  obtain ⟨B, de, t1, mv, t2, tk, r⟩ := R
  exact f B de t1 mv t2 tk r.1 r.2.1 r.2.2.1 r.2.2.2.1 r.2.2.2.2.1 r.2.2.2.2.2.1 r.2.2.2.2.2.2
theorem RaisedF.less (R : RaisedF P C base G l e k news h) (hs : ∀ p ∈ news', p ∈ news) : RaisedF P C base G l e k news' h :=
  R.el fun B de t1 mv t2 tk a b c r r1 r2 r3 => ⟨B, de, t1, mv, t2, tk, a, b, fun q hq => c q ((List.mem_cons.mp hq).elim (fun z => z ▸ .head _) fun hq => .tail _ (hs _ hq)), r, r1, r2, r3⟩
end

theorem Trc.el {X : Prop} {B : Heap} {e C de : Addr} {fl : Value} {h : Heap} (x : Trc B e C de fl h) (f : ∀ vs oe, h.get? e = some oe → oe.cls = .ref C → oe.dict = some de → oe.data = .fields vs → X) : X := by
  obtain ⟨vs, T, oT, ts, ⟨oe, r⟩, _⟩ := x
  exact f vs oe r.1 r.2.1 r.2.2.1 r.2.2.2

theorem MadeF.el {X : Prop} {P : Params} {C : Addr} {g : Heap} {L : Addr} {m : Str → Option Value} {e : Addr} {k : Int} {news : List (Addr × Obj)} {h : Heap} (R : MadeF P C g L m e k news h)
    (f : ∀ de oe vs t1 mv t2 tk, Fr g L h m → News g L h ((e, oe) :: (de, faultD P t1 mv t2 k tk) :: news) → oe.cls = .ref C → oe.dict = some de → oe.data = .fields vs → vs[1]? = some .none → (∀ q ∈ (de, faultD P t1 mv t2 k tk) :: news, q.1 ≠ e) → X) : X := by
  obtain ⟨de, oe, vs, t1, mv, t2, tk, r⟩ := R
  exact f de oe vs t1 mv t2 tk r.1 r.2.1 r.2.2.1 r.2.2.2.1 r.2.2.2.2.1 r.2.2.2.2.2.1 r.2.2.2.2.2.2

section
variable {M : Model} {A : Around} {E : Value → Shared → Prop} {s' : Shared} {base g g₂ : Heap} {outer : List Env} {L a e C : Addr} {m : Str → Option Value} {name : Str} {scope : Scope} {cd : Value} {Q : Unit → Shared → Prop} {news : List (Addr × Obj)} {P : Params} {k : Int}

theorem leave_newF (K : Below A base outer g) (X : MadeF P C g L m e k news s'.heap)
    (hQ : ∀ h', RaisedF P C base g outer e k news h' → g.UpToSlots h' → Q () { s' with heap := h' }) (hk : scope.kind = .function) :
    wpAny M (A.deeper (envOf name scope L a cd)) (leaving (envOf name scope L a cd) (.ref e)) Q E s' := by
  refine X.el fun de oe vs t1 mv t2 tk F N hc hdd hd h1 hne => ?_
  have K' := K.push (name := name) (a := a) (cd := cd) F hk
  have He := N _ (.head _)
  let as : List Addr := e :: (envOf name scope L a cd :: outer).filterMap (·.frame)
  have hin : ∀ env ∈ (envOf name scope L a cd :: outer), ∀ b, env.frame = some b → b ∈ as := fun env he b hb => .tail _ (List.mem_filterMap.mpr ⟨env, he, hb⟩)
  have eb : base.get? e = none := fresh_of_stays K.stays He.2.2
  have st : base.StaysIn (hideAll s'.heap as) := fun b o q => hideAll_get _ (K'.stays b o q) fun hm => by
    rcases List.mem_cons.mp hm with z | z
    · rw [z, eb] at q; cases q
    · rw [(K'.frames.mem z).1] at q; cases q
  have sg : ∀ b o, g.get? b = some o → b ∉ outer.filterMap (·.frame) → (hideAll s'.heap as).get? b = some o := fun b o q nm => hideAll_get _ (F.keep b o q) fun hm => by
    rcases List.mem_cons.mp hm with z | z
    · rw [z, He.2.2] at q; cases q
    · rcases kts_mem z with z | z
      · rw [z, kts_self F] at q; cases q
      · exact nm z
  have hl : ∀ q ∈ (de, faultD P t1 mv t2 k tk) :: news, (hideAll s'.heap as).get? q.1 = some q.2 ∧ g.get? q.1 = none ∧ base.get? q.1 = none := fun q hq => by
    have Nq := N q (.tail _ hq)
    refine ⟨hideAll_get _ Nq.1 fun hm => ?_, Nq.2.2, fresh_of_stays K.stays Nq.2.2⟩
    rcases List.mem_cons.mp hm with z | z
    · exact hne q hq z
    · obtain ⟨env, he, hf⟩ := List.mem_filterMap.mp z
      rcases List.mem_cons.mp he with rfl | he
      · exact Nq.2.1 (Option.some.inj hf).symm
      · obtain ⟨o, ho, _⟩ := (K.frames.mem (List.mem_filterMap.mpr ⟨env, he, hf⟩)).2
        rw [Nq.2.2] at ho; cases ho
  have hb : (hideAll s'.heap as).StaysIn s'.heap := fun b o q => of_hideAll _ q
  have hen : (hideAll s'.heap as).get? e = none := hideAll_none _ (.head _)
  have hx : ExO s'.heap e C de vs := ⟨oe, He.1, hc, hdd, hd⟩
  unfold leaving
  refine wpAny_bind (note_first K'.stack (funFrames_hide K'.frames hin) rfl hb hen hx h1 fun h₁ k₁ x₁ => ?_)
  refine flight_off k₁.1 k₁.2.1 x₁ fun h₂ k₂ x₂ => ?_
  exact hQ h₂ ⟨_, de, t1, mv, t2, tk, st, sg, hl, k₂.1, hen, k₂.2.1.2.2, x₂⟩ (((Heap.UpToSlots.of_keeps F.keep).trans k₁.2.2).trans k₂.2.2)

theorem leave_onF (K : Below A base outer g) (F : Fr g L g₂ m) (R : RaisedF P C base g₂ (envOf name scope L a cd :: outer) e k news s'.heap) (hsm : g₂.UpToSlots s'.heap)
    (hQ : ∀ h', RaisedF P C base g outer e k news h' → g.UpToSlots h' → Q () { s' with heap := h' }) :
    wpAny M (A.deeper (envOf name scope L a cd)) (leaving (envOf name scope L a cd) (.ref e)) Q E s' := by
  refine R.el fun B de t1 mv t2 tk st sg hl hb hen fr x => ?_
  unfold leaving
  refine wpAny_bind (note_next (Around.frames_deeper K.stack) fr rfl hb hen x fun h₁ k₁ x₁ => ?_)
  refine flight_off k₁.1 k₁.2.1 x₁ fun h₂ k₂ x₂ => ?_
  refine hQ h₂ ⟨B, de, t1, mv, t2, tk, st, fun b o q nm => sg b o (F.keep b o q) (fun hm => ?_), fun q hq => ⟨(hl q hq).1, kts_none F.keep (hl q hq).2.1, (hl q hq).2.2⟩, k₂.1, hen, k₂.2.1.2.2, x₂⟩
    (((Heap.UpToSlots.of_keeps F.keep).trans (hsm.trans k₁.2.2)).trans k₂.2.2)
  rcases kts_mem hm with z | z
  · rw [z, kts_self F] at q; cases q
  · exact nm z
end

section
variable {prog : Program} {w : World} {A₀ : Around} {E : Value → Shared → Prop} {s' : Shared} {base g g₀ G : Heap} {outer : List Env} {L a e C : Addr} {m : Str → Option Value} {name : Str} {scope : Scope} {cd : Value}
  {n : Str} {b₀ : Stmt} {suite : List Stmt} {pos np : Pos} {rest : List ExceptHandler} {Q : Flow → Shared → Prop} {news : List (Addr × Obj)} {KF : Frag}
  {p : Program} {loose : List Str} {mean : ExcName → Option Value} {mg mb : Str → Option Value} {x : Str} {P : Params} {k : Int}

theorem land_el {X : Prop} {B h : Heap} {de : Addr} {fl : Value} (K : Below A₀ base outer g) (F : Fr g L G m) (hBG : ∀ b o, G.get? b = some o → b ∉ (envOf name scope L a cd :: outer).filterMap (·.frame) → B.get? b = some o) (hb : B.StaysIn h) (hsm : G.UpToSlots h)
    (x : Trc B e C de fl h) (f : ∀ g' vs oe, KtsTurn (outer.filterMap (·.frame)) g g' → Fr g' L h m → Below A₀ base outer g' → h.get? e = some oe → oe.cls = .ref C → oe.dict = some de → oe.data = .fields vs → X) : X := by
  obtain ⟨g', r⟩ := kts_ground K F hBG hb hsm
  exact x.el fun vs oe => f g' vs oe r.1 r.2.1 r.2.2

theorem matches_own {M : Model} {A : Around} {oe : Obj} {T : String} {h : Heap} {gs : Array GenState} {d : Drawn} {t : Nat} {os : OsState} {Q : Bool → Shared → Prop} (X : KF.In h) (q : ktsIn KF C T = true) (he : h.get? e = some oe) (hc : oe.cls = .ref C)
    (hq : Q true ⟨h, gs, d, t, os⟩) : wpAny M A (excMatches (.ref e) (.ref C)) Q E ⟨h, gs, d, t, os⟩ := by
  obtain ⟨nm, qn, N, bs, bm, hdct, sn, sub, ab, col, dd, k0, k1, k2, k3, k5, newId, r⟩ := kts_cls X q
  exact wpAny_excMatches_sub_self r.1 he hc r.2.1 hq

theorem caught_F (R : RaisedF P C base G (envOf name scope L a cd :: outer) e k news s'.heap) (F : Fr g L G m) (K : Below A₀ base outer g) (hsm : G.UpToSlots s'.heap) (XB : KF.In base) (TB : Top p loose mean mg mb base)
    (D : KtsDicts (outer.filterMap (·.frame)) g) (T0 : KtsTurn (outer.filterMap (·.frame)) g₀ g)
    (ex : nsIn KF mainGlobals x = some (some (.ref C))) (q : ktsIn KF C "BaseException" = true)
    (kk : ∀ h' g' tk' oe vs de t1 mv t2 tk, KtsTurn (outer.filterMap (·.frame)) g₀ g' → Fr g' L h' (fun y => if y = n then some (.ref e) else m y) →
      News g' L h' ((e, oe) :: (de, faultD P t1 mv t2 k tk) :: news) → oe.cls = .ref C → oe.dict = some de → oe.data = .fields vs →
      Below A₀ base outer g' → KF.In g' → Top p loose mean mg mb g' → KtsDicts (outer.filterMap (·.frame)) g' →
      wpAny (model prog w) ((A₀.deeper (envOf name scope L a cd)).mark (some (.ref e))) (execs (b₀ :: suite) (envOf name scope L a cd))
        (fun f s₄ => wpAny (model prog w) (A₀.deeper (envOf name scope L a cd)) (do bindName (envOf name scope L a cd) n .none; unbindBehindTheSuite (envOf name scope L a cd) n pos) (fun _ s₅ => Q f s₅) E s₄)
        (AsSuiteRaised (model prog w) ((A₀.deeper (envOf name scope L a cd)).mark (some (.ref e))) (envOf name scope L a cd) n pos (notedBy (model prog w) ((A₀.deeper (envOf name scope L a cd)).mark (some (.ref e))) (envOf name scope L a cd) (cameBackBy (model prog w) (A₀.deeper (envOf name scope L a cd)) (envOf name scope L a cd) E)))
        { s' with heap := h', toks := tk' })
    (hk : scope.kind = .function) (hlo : (envOf name scope L a cd).kindOf n = some .local) (hx : (envOf name scope L a cd).kindOf x = some .globalImplicit) (hd : (x == ("__debug__" : Str)) = false) :
    wpAny (model prog w) (A₀.deeper (envOf name scope L a cd)) (noteFrame (.ref e) (envOf name scope L a cd))
      (fun _ s₂ => wpAny (model prog w) (A₀.deeper (envOf name scope L a cd)) (setFlight (.ref e) none) (fun _ s₃ =>
        wpAny (model prog w) (A₀.deeper (envOf name scope L a cd)) (handleBy (.ref e) (envOf name scope L a cd) (.ExceptHandler (some (.Name x np)) (some n) (b₀ :: suite) pos :: rest)) Q E s₃) E s₂) E s' := by
  refine R.el fun B de t1 mv t2 tk hB hBG hl hbs hen hfr hx0 => ?_
  have hL : B.get? L = none := by
    obtain ⟨_, ⟨L', _, hf, hn', _⟩, _⟩ := hfr
    obtain rfl : L = L' := Option.some.inj hf
    exact hn'
  refine note_next (Around.frames_deeper K.stack) hfr rfl hbs hen hx0 fun h₄ k₄ x₄ => ?_
  refine flight_off k₄.1 k₄.2.1 x₄ fun h₅ k₅ x₅ => ?_
  have hsm₅ := (hsm.trans k₄.2.2).trans k₅.2.2
  refine land_el K F hBG k₅.1 hsm₅ x₅ fun g₅ vs₅ oe₅ T₅ F₅ K₅ hoe₅ hoc₅ hod₅ hof₅ => ?_
  have X₅ : KF.In g₅ := XB.keeps K₅.stays
  have P₅ : TopRead p loose mg mb g₅ := topRead_of (TB.keeps K₅.stays)
  refine wpAny_handleBy_cons (codeAny_handlers_test (name_K F₅ X₅ P₅ ex ?_ hk hx hd)) (by intro q; cases q)
  refine matches_own (X₅.keeps F₅.keep) q hoe₅ hoc₅ (codeAny_handlers_suite_as ?_)
  refine flight_off k₅.1 k₅.2.1 x₅ fun h₆ k₆ x₆ => ?_
  refine land_el K F hBG k₆.1 (hsm₅.trans k₆.2.2) x₆ fun g₆ vs₆ oe₆ T₆ F₆ K₆ hoe₆ hoc₆ hod₆ hof₆ => ?_
  have ne₆ : g₆.get? e = none := T₆.none_ _ (kts_fresh F hBG hen fun o ho mm => by
    obtain ⟨_, o', ho', hd⟩ := K.frames.mem mm
    rw [ho] at ho'
    cases ho'
    obtain ⟨sl, hs⟩ := (hsm₅.trans k₆.2.2) _ _ (F.keep _ _ ho) hd
    rw [hoe₆] at hs
    cases hs
    exact hd _ hof₆)
  have Nl : News g₆ L h₆ ((de, faultD P t1 mv t2 k tk) :: news) := fun q hq => ⟨k₆.1 _ _ (hl q hq).1, (fun z => by have := (hl q hq).1; rw [z, hL] at this; cases this), T₆.none_ _ (kts_none F.keep (hl q hq).2.1)⟩
  have N₆ := News.more F₆ Nl hoe₆ (fun es n q => by rw [hof₆] at q; cases q) ne₆
  have X₆ : KF.In g₆ := XB.keeps K₆.stays
  have P₆ : Top p loose mean mg mb g₆ := TB.keeps K₆.stays
  have D₆ : KtsDicts (outer.filterMap (·.frame)) g₆ := D.turn T₆
  refine stN F₆ N₆ (fun h₇ F₇ N₇ => ?_) hk hlo
  exact kk h₇ g₆ _ oe₆ vs₆ de t1 mv t2 tk (T0.trans T₆) F₇ N₇ hoc₆ hod₆ hof₆ K₆ X₆ P₆ D₆
end
end Mine
end -- Ex2
section -- Ex3
open PySem PySem.W PySem.Calls PyProof.Rows PySem.Spec Builtin Builtin.ObjectAttr Builtin.Getset_descriptor
set_option Elab.async false
set_option maxRecDepth 100000
namespace Mine
/-- classes of the text's own, then Exception's own road -/
noncomputable def onlyExc : List Value → Bool
  | .ref _ :: r => onlyExc r
  | l => l == [.type "Exception", .type "BaseException", .type "object"]
theorem onlyExc_ref (c : Addr) (r : List Value) : onlyExc (.ref c :: r) = onlyExc r := rfl
theorem onlyExc_refuse (self : Value) : ∀ {l : List Value}, onlyExc l = true → refuseLoop self "__setattr__" l = pure ()
  | [], e => by simp [onlyExc] at e
  | .ref c :: r, e => by rw [refuseLoop_ref]; exact onlyExc_refuse self (l := r) e
  | .type n :: r, e => by
    have q : (Value.type n :: r) = [.type "Exception", .type "BaseException", .type "object"] := beq_iff_eq.mp e
    rw [q]; exact PySem.F.store_Exception.passes self
  | .none :: r, e | .notImplemented :: r, e | .ellipsis :: r, e | .bool _ :: r, e | .int _ _ :: r, e | .str _ _ :: r, e | .float _ _ :: r, e | .bytes _ _ :: r, e | .builtin _ :: r, e => by simp [onlyExc] at e
theorem onlyExc_has {x : String} (hx : ([.type "Exception", .type "BaseException", .type "object"] : List Value).contains (.type x) = true) : ∀ {l : List Value}, onlyExc l = true → l.contains (.type x) = true
  | [], e => by simp [onlyExc] at e
  | .ref c :: r, e => by rw [List.contains_cons, onlyExc_has hx (l := r) e, Bool.or_true]
  | .type n :: r, e => by
    have q : (Value.type n :: r) = [.type "Exception", .type "BaseException", .type "object"] := beq_iff_eq.mp e
    rw [q]; exact hx
  | .none :: r, e | .notImplemented :: r, e | .ellipsis :: r, e | .bool _ :: r, e | .int _ _ :: r, e | .str _ _ :: r, e | .float _ _ :: r, e | .bytes _ _ :: r, e | .builtin _ :: r, e => by simp [onlyExc] at e
noncomputable def excOver (K : Frag) (C : Addr) : Bool := (clsIn K C).any fun cd => onlyExc cd.mro && cd.hasDict && cd.mro.contains (.ref C)

section
variable {prog : Program} {w : World} {A : Around} {K : Frag} {C x : Addr} {s : Shared} {h₀ : Heap} {L : Addr} {m : Str → Option Value} {news : List (Addr × Obj)} {R : Result → Shared → Prop}
theorem esa_open {ox : Obj} {od : Option Obj} {name : Str} {tk : Tok} {v : Value} (X : K.In s.heap) (I : InstAt s.heap x ox C od) (hp : excOver K C = true) (ht : takerIn K C name = some none)
    (h : ∀ b, wpAny (model prog w) A.in1 (storeInOwnDict (.ref x) (.ref C) (.str name tk) name v b)
      (fun fin s' => match fin with | .done f => R (.ok f) s' | .again c' => c'.quiet = true ∧ codeAny (model prog w) A c' R s') (fun e s' => R (.error e) s') s) :
    codeAny (model prog w) A (.call (.builtin "object.__setattr__") ⟨[.ref x, .str name tk, v], []⟩) R s := by
  have SF := PySem.F.store_object
  obtain ⟨cd, hc, ho'⟩ := any_some hp
  simp only [Bool.and_eq_true] at ho'
  obtain ⟨⟨ho, hdict⟩, hself⟩ := ho'
  have ne : cd.mro.isEmpty = false := by cases q : cd.mro with | nil => rw [q] at ho; simp [onlyExc] at ho | cons _ _ => rfl
  have sub : Looks (model prog w) s.heap (isInstance (.ref x) (.type "object")) true := I.type.andThen (looks_mroIn X (by unfold mroIn; rw [hc, Option.bind_some, if_neg (by rw [ne]; decide), onlyExc_has (by decide +kernel) ho]))
  refine codeAny_call_builtin SF.slot.plain SF.entry (@check_slot (model prog w) _ _ s "object.__setattr__" "object" "__setattr__" (.ref x) [.str name tk, v] [] _ SF.kind SF.split sub (SF.args (.ref x) (.str name tk) v) ?_)
  obtain ⟨attr, ha, hr⟩ := Option.bind_eq_some_iff.mp ht
  have hm : Looks (model prog w) s.heap (mroOf (.ref C)) cd.mro := (looks_clsIn X hc).andThen .now
  have L3 : Looks (model prog w) s.heap (storeTaker? attr) none := by
    cases attr with
    | none => exact .now
    | some a =>
      obtain ⟨b, hb, hr⟩ := Option.map_eq_some_iff.mp hr
      refine (looks_takesIn X hb).andThen ?_
      cases b
      · exact .now
      · cases hr
  rw [osa_eq, refuse_eq]
  refine wpAny_bind (wpAny_bind (I.type.here (wpAny_bind (hm.here ?_))))
  rw [onlyExc_refuse _ ho]
  refine wpAny_pure (wpAny_bind (I.type.here (wpAny_bind ((looks_findIn X ha).here (wpAny_bind (L3.here ?_))))))
  exact h _

/-- an exception's own dict takes one more name, or another value of a name -/
theorem esa_dict0 {ox : Obj} {dx : Addr} {name : Str} {tk : Tok} {v : Value} {pre post : List (Addr × Obj)} {es es' : List DictEntry} {n n' : Nat} (F : Fr h₀ L s.heap m) (N : News h₀ L s.heap (pre ++ (dx, dictOf es n) :: post)) (X : K.In s.heap)
    (I : InstAt s.heap x ox C (some (dictOf es n))) (hd : ox.dict = some dx) (hp : excOver K C = true) (ht : takerIn K C name = some none)
    (hl : (getL name es).isSome = true) (h1 : ∀ p ∈ pre, p.1 ≠ dx) (h2 : ∀ p ∈ post, p.1 ≠ dx)
    (e : (putL name (PyData.keyHash w.params name) (.str name s.toks) v es, putN name es n) = (es', n')) (hz : es'.length ≤ 1000)
    (h : ∀ h', Fr h₀ L h' m → News h₀ L h' (pre ++ (dx, dictOf es' n') :: post) → R (.ok (.ret .none)) { s with heap := h', toks := s.toks + 1 }) :
    codeAny (model prog w) A (.call (.builtin "object.__setattr__") ⟨[.ref x, .str name tk, v], []⟩) R s := by
  obtain ⟨e1, e2⟩ := Prod.mk.inj e
  refine esa_open X I hp ht fun b => ?_
  obtain ⟨cd, hc, ho'⟩ := any_some hp
  simp only [Bool.and_eq_true] at ho'
  obtain ⟨⟨_, hd'⟩, _⟩ := ho'
  have pn : Obj.putName name (PyData.keyHash w.params name) (.str name s.toks) v (dictOf es n) = dictOf es' n' := by rw [putName_dict, e1, e2]
  obtain ⟨U1, U2⟩ := news_upd (f := Obj.putName name (PyData.keyHash w.params name) (.str name s.toks) v) F N h1 h2 pn rfl
  have D := (N (dx, dictOf es n) (by simp)).1
  have D' := (U2 (dx, dictOf es' n') (by simp)).1
  obtain ⟨hx, hcl, hn, -⟩ := I
  obtain ⟨oc, odi, oda, osl⟩ := ox
  dsimp only at hcl hd
  subst hcl hd
  refine wpAny_bind (wpAny_pure (wpAny_bind (wpAny_bind (wpAny_loadPart hx (wpAny_bind ((looks_clsIn X hc).here ?_))))))
  rw [hd']
  refine wpAny_pure (a := some dx) (wpAny_bind (wpAny_pure (wpAny_bind ?_)))
  unfold nsSet
  refine wpAny_bind (wpAny_bind (wpAny_askSetting (wpAny_pure (wpAny_bind (wpAny_mkText (wpAny_bind (wpAny_loadPart D ?_)))))))
  dsimp only
  have c : (!es.toArray.any (·.key.isStr name) && es.toArray.any (·.refKey)) = false := by
    rw [← Array.any_toList, ← Array.any_toList]
    unfold getL at hl
    split at hl
    · rename_i en he
      rw [List.any_eq_true.mpr ⟨en, List.mem_of_find?_eq_some he, List.find?_some he⟩]; rfl
    · split at hl
      · cases hl
      · rename_i z; rw [Bool.not_eq_true] at z; rw [z, Bool.and_false]
  rw [aRefKeyMayBeTheName_at, c]
  refine wpAny_updatePart D ?_
  refine wpAny_bind (wpAny_lookBehind D' (by exact pastItsLine_dict (by rw [List.size_toArray, sizeLine_eq]; omega)) ?_)
  exact wpAny_pure (h _ U1 U2)
theorem esa_dict {ox : Obj} {dx : Addr} {name : Str} {v : Value} {pre post : List (Addr × Obj)} {es es' : List DictEntry} {n n' : Nat} {E : Value → Shared → Prop} {Q : Unit → Shared → Prop} (F : Fr h₀ L s.heap m) (N : News h₀ L s.heap (pre ++ (dx, dictOf es n) :: post)) (X₀ : K.In h₀)
    (I : InstAt s.heap x ox C (some (dictOf es n))) (hd : ox.dict = some dx) (hs : findIn K (.ref C) "__setattr__" = some (some (.builtin "object.__setattr__"))) (hp : excOver K C = true) (ht : takerIn K C name = some none)
    (hl : (getL name es).isSome = true) (h1 : ∀ p ∈ pre, p.1 ≠ dx) (h2 : ∀ p ∈ post, p.1 ≠ dx)
    (e : (putL name (PyData.keyHash w.params name) (.str name (s.toks + 1)) v es, putN name es n) = (es', n')) (hz : es'.length ≤ 1000)
    (h : ∀ h', Fr h₀ L h' m → News h₀ L h' (pre ++ (dx, dictOf es' n') :: post) → Q () { s with heap := h', toks := s.toks + 2 }) :
    wpAny (model prog w) A (setAttr (.ref x) name v) Q E s :=
  set_plain (X₀.keeps F.keep) I hs (esa_dict0 (s := { s with toks := s.toks + 1 }) F N (X₀.keeps F.keep) I hd hp ht hl h1 h2 e hz fun h' F' N' => h h' F' N')

/-- an exception without a dict of its own gets one -/
theorem esa_first0 {ox : Obj} {name : Str} {tk : Tok} {v : Value} {vs : Array Value} {pre post : List (Addr × Obj)} (F : Fr h₀ L s.heap m) (N : News h₀ L s.heap (pre ++ (x, ox) :: post)) (X : K.In s.heap)
    (hcl : ox.cls = .ref C) (hdn : ox.dict = none) (hda : ox.data = .fields vs) (hp : excOver K C = true) (ht : takerIn K C name = some none)
    (h1 : ∀ p ∈ pre, p.1 ≠ x) (h2 : ∀ p ∈ post, p.1 ≠ x)
    (h : ∀ dx h', Fr h₀ L h' m → News h₀ L h' ((dx, dictOf [⟨PyData.keyHash w.params name, .str name s.toks, v⟩] 1) :: (pre ++ (x, { ox with dict := some dx }) :: post)) → (∀ p ∈ pre ++ (x, ox) :: post, p.1 < dx) →
      R (.ok (.ret .none)) { s with heap := h', toks := s.toks + 1 }) :
    codeAny (model prog w) A (.call (.builtin "object.__setattr__") ⟨[.ref x, .str name tk, v], []⟩) R s := by
  have Nx := N (x, ox) (by simp)
  have I : InstAt s.heap x ox C none := ⟨Nx.1, hcl, by unfold notCls; rw [hda], by rw [hdn]; trivial⟩
  refine esa_open X I hp ht fun b => ?_
  obtain ⟨cd, hc, ho'⟩ := any_some hp
  simp only [Bool.and_eq_true] at ho'
  obtain ⟨⟨_, hd'⟩, _⟩ := ho'
  obtain ⟨oc, odi, oda, osl⟩ := ox
  dsimp only at hcl hdn hda
  subst hcl hdn hda
  refine wpAny_bind (wpAny_pure (wpAny_bind (wpAny_bind (wpAny_loadPart Nx.1 (wpAny_bind ((looks_clsIn X hc).here ?_))))))
  rw [hd']
  simp only [Bool.not_true, Bool.false_eq_true, if_false]
  rw [if_neg (by simp [typeHasDict])]
  have F₁ := F.push emptyDict
  have N₁ := N.push F emptyDict
  have lt : ∀ p ∈ pre ++ (x, (⟨.ref C, none, .fields vs, osl⟩ : Obj)) :: post, p.1 < s.heap.objs.size := fun p hp => Heap.lt_size (N p hp).1
  have N₁' : News h₀ L (s.heap.push emptyDict) (((s.heap.objs.size, emptyDict) :: pre) ++ (x, (⟨.ref C, none, .fields vs, osl⟩ : Obj)) :: post) := N₁
  obtain ⟨F₂, N₂⟩ := news_upd (f := fun o => { o with dict := some s.heap.objs.size }) (o' := ⟨.ref C, some s.heap.objs.size, .fields vs, osl⟩) F₁ N₁' (fun p hp => by
    rcases List.mem_cons.mp hp with rfl | hp
    · exact Nat.ne_of_gt (lt _ (List.mem_append_right _ (.head _)))
    · exact h1 p hp) h2 rfl rfl
  refine wpAny_bind (wpAny_alloc (wpAny_bind ?_))
  refine wpAny_update (N₁' (x, ⟨.ref C, none, .fields vs, osl⟩) (by simp)).1 ?_
  refine wpAny_pure (a := some s.heap.objs.size) (wpAny_bind (wpAny_pure (wpAny_bind ?_)))
  have N₂' : News h₀ L ((s.heap.push emptyDict).update x fun o => { o with dict := some s.heap.objs.size }) ([] ++ (s.heap.objs.size, dictOf [] 0) :: (pre ++ (x, (⟨.ref C, some s.heap.objs.size, .fields vs, osl⟩ : Obj)) :: post)) := N₂
  have pn : Obj.putName name (PyData.keyHash w.params name) (.str name s.toks) v (dictOf [] 0) = dictOf [⟨PyData.keyHash w.params name, .str name s.toks, v⟩] 1 := by rw [putName_dict]; rfl
  obtain ⟨U1, U2⟩ := news_upd (f := Obj.putName name (PyData.keyHash w.params name) (.str name s.toks) v) F₂ N₂' (fun _ h => nomatch h) (fun p hp => by
    rcases List.mem_append.mp hp with hp | hp
    · exact Nat.ne_of_lt (lt p (List.mem_append_left _ hp))
    · rcases List.mem_cons.mp hp with rfl | hp
      · exact Nat.ne_of_lt (lt (x, ⟨.ref C, none, .fields vs, osl⟩) (List.mem_append_right _ (.head _)))
      · exact Nat.ne_of_lt (lt p (List.mem_append_right _ (.tail _ hp)))) pn rfl
  have D := (N₂' (s.heap.objs.size, dictOf [] 0) (by simp)).1
  have D' := (U2 (s.heap.objs.size, dictOf [⟨PyData.keyHash w.params name, .str name s.toks, v⟩] 1) (by simp)).1
  unfold nsSet
  refine wpAny_bind (wpAny_bind (wpAny_askSetting (wpAny_pure (wpAny_bind (wpAny_mkText (wpAny_bind (wpAny_loadPart D ?_)))))))
  dsimp only
  have c : (!([] : List DictEntry).toArray.any (·.key.isStr name) && ([] : List DictEntry).toArray.any (·.refKey)) = false := by simp
  rw [aRefKeyMayBeTheName_at, c]
  refine wpAny_updatePart D ?_
  refine wpAny_bind (wpAny_lookBehind D' (by exact pastItsLine_dict (by simp [sizeLine_eq])) ?_)
  exact wpAny_pure (h _ _ U1 U2 lt)
theorem esa_first {ox : Obj} {name : Str} {v : Value} {vs : Array Value} {pre post : List (Addr × Obj)} {E : Value → Shared → Prop} {Q : Unit → Shared → Prop} (F : Fr h₀ L s.heap m) (N : News h₀ L s.heap (pre ++ (x, ox) :: post)) (X₀ : K.In h₀)
    (hcl : ox.cls = .ref C) (hdn : ox.dict = none) (hda : ox.data = .fields vs) (hs : findIn K (.ref C) "__setattr__" = some (some (.builtin "object.__setattr__"))) (hp : excOver K C = true) (ht : takerIn K C name = some none)
    (h1 : ∀ p ∈ pre, p.1 ≠ x) (h2 : ∀ p ∈ post, p.1 ≠ x)
    (h : ∀ dx h', Fr h₀ L h' m → News h₀ L h' ((dx, dictOf [⟨PyData.keyHash w.params name, .str name (s.toks + 1), v⟩] 1) :: (pre ++ (x, { ox with dict := some dx }) :: post)) → (∀ p ∈ pre ++ (x, ox) :: post, p.1 < dx) →
      Q () { s with heap := h', toks := s.toks + 2 }) :
    wpAny (model prog w) A (setAttr (.ref x) name v) Q E s := by
  have Nx := N (x, ox) (by simp)
  have I : InstAt s.heap x ox C none := ⟨Nx.1, hcl, by unfold notCls; rw [hda], by rw [hdn]; trivial⟩
  exact set_plain (X₀.keeps F.keep) I hs (esa_first0 (s := { s with toks := s.toks + 1 }) F N (X₀.keeps F.keep) hcl hdn hda hp ht h1 h2 fun dx h' F' N' l => h dx h' F' N' l)

/-- an attribute of an exception, out of its own dict -/
theorem exc_get {ox : Obj} {od : Obj} {name : Str} {v : Value} {expr : Bool} {E : Value → Shared → Prop} {Q : Value → Shared → Prop} (X : K.In s.heap) (I : InstAt s.heap x ox C (some od))
    (hga : findIn K (.ref C) "__getattribute__" = some (some (.builtin "BaseException.__getattribute__"))) (hgb : findIn K (.ref C) "__getattr__" = some none) (hp : excOver K C = true)
    (hf : findObj K C (some od) name = some (.value v)) (hh : handedIn v = true) (h : Q v { s with toks := s.toks + 1 }) : wpAny (model prog w) A (getAttr (.ref x) name expr) Q E s := by
  obtain ⟨cd, hc, ho'⟩ := any_some hp
  simp only [Bool.and_eq_true] at ho'
  obtain ⟨⟨ho, _⟩, _⟩ := ho'
  have ne : cd.mro.isEmpty = false := by cases q : cd.mro with | nil => rw [q] at ho; simp [onlyExc] at ho | cons _ _ => rfl
  have sub : Looks (model prog w) s.heap (isInstance (.ref x) (.type "BaseException")) true := I.type.andThen (looks_mroIn X (by unfold mroIn; rw [hc, Option.bind_some, if_neg (by rw [ne]; decide), onlyExc_has (by decide +kernel) ho]))
  obtain ⟨hh', g, d, t, os⟩ := s
  have L0 := I.type (M := model prog w)
  have L1 := looks_findIn (M := model prog w) X hga
  have L2 := looks_find (M := model prog w) X I hf
  have hk : builtinKind "BaseException.__getattribute__" = some .slot := by decide +kernel
  have hsplit : splitId "BaseException.__getattribute__" = some ("BaseException", "__getattribute__") := by decide +kernel
  have hx0 : (expr && onTheHeap (Value.builtin "BaseException.__getattribute__")) = false := by cases expr <;> rfl
  have hx1 : (onTheHeap (Value.ref C) && Value.builtin "BaseException.__getattribute__" == Value.builtin "object.__getattribute__") = false := by
    rw [show (Value.builtin "BaseException.__getattribute__" == Value.builtin "object.__getattribute__") = false from by decide +kernel, Bool.and_false]
  have GA : Slot "Exception" "__getattribute__" "BaseException.__getattribute__" := (PySem.F.attr_Exception).ga
  unfold getAttr getAttrBy
  refine wpAny_bind (wpAny_mkText (wpAny_holding (wpAny_bind (L0.at (wpAny_bind (L1.at ?_))))))
  dsimp only
  rw [hx1]
  simp only [Bool.false_eq_true, if_false]
  have L3 : Looks (model prog w) hh' (hookBefore (.ref C)) none := looks_findIn (M := model prog w) X hgb
  unfold getAttrByItsOwn
  refine wpAny_bind (L3.at (wpAny_bind (wpAny_attempt (wpAny_holding ?_))))
  unfold callGetattribute
  rw [hx0]
  simp only [Bool.false_eq_true, if_false]
  unfold boundAndCalled
  rw [GA.bind]
  refine wpAny_bind (wpAny_pure ?_)
  refine wpAny_call (codeAny_call_builtin GA.plain PySem.F.entry_bexc_ga (@check_slot (model prog w) _ _ _ "BaseException.__getattribute__" "BaseException" "__getattribute__" (.ref x) [.str name t] [] _ hk hsplit sub (PySem.F.args_bexc_ga _ _) ?_))
  refine wpAny_bind (wpAny_pure (wpAny_bind (wpAny_pure (wpAny_bind (L0.at (wpAny_bind (L2.at ?_)))))))
  refine wpAny_pure ?_
  show wpAny _ _ (handedOut v) _ _ _
  rw [handedOut_of hh]; exact wpAny_pure h
end
end Mine
end -- Ex3
section -- Ex4
open PySem PySem.W PySem.Calls PyProof.Rows PySem.Spec Builtin Builtin.ObjectAttr Builtin.Getset_descriptor
set_option Elab.async false
set_option maxRecDepth 100000
namespace Mine
/-- what the making of an exception of a class of the text's own asks of the classes above it -/
noncomputable def excBm (C : Addr) (bm : List Value) : Bool :=
  (Value.ref C :: bm).contains (.type "Exception") && (Value.ref C :: bm).contains (.type "BaseException") && !(Value.ref C :: bm).contains (.type "AttributeError") && !(Value.ref C :: bm).contains (.type "NameError")

section
variable {nm q : Str} {C Nn : Addr} {bs bm : List Value} {hdct : Bool} {sn : List Str} {sub : List Value} {ab : Bool} {col : Option Bool} {dd : Option Addr} {k0 k1 k2 k3 k5 : Option Value}
section
variable {M : Model} {A : Around} {E : Value → Shared → Prop} {h : Heap} {g : Array GenState} {d : Drawn} {t : Nat} {os : OsState}
theorem exc_check_new {rest : List Value} {Q : Unit → Shared → Prop} (hb : excBm C bm = true) (hC : h.get? C = some (excClassObj nm q C Nn bs bm hdct sn sub ab col dd k0 k1 k2 k3 k5 "Exception.__new__"))
    (hq : Q () ⟨h, g, d, t, os⟩) : wpAny M A (checkBuiltinCall "Exception.__new__" ⟨.ref C :: rest, []⟩) Q E ⟨h, g, d, t, os⟩ := by
  have F := PySem.F.excBase_Exception
  have hcont : (Value.ref C :: bm).contains (.type "Exception") = true := by unfold excBm at hb; simp only [Bool.and_eq_true] at hb; exact hb.1.1.1
  have hstar := F.noStar
  simp only [checkBuiltinCall, F.newKind, F.newSplit, F.newRow]
  repeat (first | refine wpAny_loadPart_at hC ?_ | (refine wpAny_isSubtype_exc hC ?_; rw [hcont]) | refine wpAny_staticBase_exc hC ?_ | refine wpAny_madeBy_exc hC ?_ | simp only [bne_self_eq_false, Bool.false_eq_true, if_false] | wp_step)
  exact hq
theorem exc_check_init {e : Addr} {oe : Obj} {rest : List Value} {Q : Unit → Shared → Prop} (hb : excBm C bm = true) (hC : h.get? C = some (excClassObj nm q C Nn bs bm hdct sn sub ab col dd k0 k1 k2 k3 k5 "Exception.__new__")) (he : h.get? e = some oe) (hcls : oe.cls = .ref C)
    (hq : Q () ⟨h, g, d, t, os⟩) : wpAny M A (checkBuiltinCall "Exception.__init__" ⟨.ref e :: rest, []⟩) Q E ⟨h, g, d, t, os⟩ := by
  have F := PySem.F.excBase_Exception
  have hcB : (Value.ref C :: bm).contains (.type "Exception") = true := by unfold excBm at hb; simp only [Bool.and_eq_true] at hb; exact hb.1.1.1
  have hshort := F.noStar
  simp only [checkBuiltinCall, F.initKind, F.initSplit, F.initRow]
  repeat (first | (with_reducible refine wpAny_loadPart_at he ?_; rw [hcls]) | with_reducible refine wpAny_loadPart_at hC ?_ | (with_reducible refine wpAny_isSubtype_exc hC ?_; rw [hcB]) | wp_step)
  refine wpAny_onRaise ?_
  rw [show ∀ (a b : String) (n : Nat), Bind.check ⟨.positional, "*", "Exception", .self, [⟨"args", .varPos, false⟩]⟩ a b n (List.map (fun x => x.fst) ({ pos := Value.ref e :: rest } : Args).kw) = pure () from
    fun a b n => check_star_args _ _ _ _ _ _]
  exact wpAny_pure hq
end
section
variable {prog : Program} {w : World} {A : Around} {R : Result → Shared → Prop} {h : Heap} {g : Array GenState} {d : Drawn} {t : Nat} {os : OsState}
theorem exc_new {rest : List Value} (hb : excBm C bm = true) (hC : h.get? C = some (excClassObj nm q C Nn bs bm hdct sn sub ab col dd k0 k1 k2 k3 k5 "Exception.__new__"))
    (hq : R (.ok (.ret (.ref (h.objs.size + 1)))) ⟨(h.push { cls := .type "tuple", data := .seq rest.toArray }).push
      { cls := .ref C, data := .fields #[.ref h.objs.size, .none, .none, .none, .bool false, .none] }, g, d, t, os⟩) (hrest : rest.length ≤ sizeLine) :
    codeAny (model prog w) A (.builtin "Exception.__new__" ⟨.ref C :: rest, []⟩) R ⟨h, g, d, t, os⟩ := by
  have F := PySem.F.excBase_Exception
  have hends := F.ends
  unfold excBm at hb
  simp only [Bool.and_eq_true, Bool.not_eq_true'] at hb
  obtain ⟨⟨⟨hcB, _⟩, hcA⟩, hcN⟩ := hb
  refine codeAny_builtinAt F.entry ?_
  unfold Builtin.«BaseException.__new__»
  refine PySem.wpAt_bind ?_
  show PySem.wpAt _ _ _ (stack >>= _) _ _ _
  refine PySem.wpAt_bind (PySem.wpAt_stack fun p below => PySem.wpAt_of_wpAny ?_)
  wp_walk
  refine PySem.wpAt_of_wpAny ?_
  rw [F.owner]
  repeat (first | with_reducible refine wpAny_madeHere_exc F.canon hC ?_ | with_reducible refine wpAny_loadPart_at hC ?_ | (with_reducible refine wpAny_isSubtype_exc hC ?_; first | rw [hcB] | rw [hcA] | rw [hcN]) | wp_step)
  show R _ _
  rw [Heap.size_push]
  exact hq
end

section
variable {prog : Program} {w : World} {A : Around} {E : Value → Shared → Prop} {s : Shared} {K : Frag} {L : Addr} {h₀ : Heap} {m : Str → Option Value} {news : List (Addr × Obj)} {g : Array GenState} {d : Drawn} {t : Nat} {os : OsState} {hp : Heap}

noncomputable abbrev tupO (rest : List Value) : Obj := { cls := .type "tuple", data := .seq rest.toArray }
noncomputable abbrev excO (C t : Addr) : Obj := { cls := .ref C, data := .fields #[.ref t, .none, .none, .none, .bool false, .none] }

theorem exc_type_call {rest : List Value} {fI : Addr} {Q : Fin → Shared → Prop} (X : K.In hp) (hb : excBm C bm = true)
    (hC : hp.get? C = some (excClassObj nm q C Nn bs bm hdct sn sub ab col dd k0 k1 k2 k3 k5 "Exception.__new__")) (hi : findIn K (.ref C) "__init__" = some (some (.ref fI))) (hf : typeIn K (.ref fI) = some (.type "function"))
    (hq : wpAny (model prog w) A (call (.ref fI) (.ref (hp.objs.size + 1) :: rest)) (fun r s' => r = .none ∧ Q (.done (.ret (.ref (hp.objs.size + 1)))) s') E
        ⟨(hp.push (tupO rest)).push (excO C hp.objs.size), g, d, t, os⟩) (hrest : rest.length ≤ sizeLine) :
    wpAny (model prog w) A (Builtin.«type.__call__» ⟨.ref C :: rest, []⟩) Q E ⟨hp, g, d, t, os⟩ := by
  have F := PySem.F.excBase_Exception
  repeat (first | with_reducible refine wpAny_loadPart_at hC ?_ | with_reducible refine wpAny_madeBy_exc hC ?_ | wp_step)
  refine codeAny_call_builtin_code (Code.quiet_builtin _ F.quiet) (exc_check_new hb hC ?_)
  refine exc_new hb hC ?_ hrest
  show wpAny _ _ _ _ _ _
  have kk : ∀ b o, hp.get? b = some o → ((hp.push (tupO rest)).push (excO C hp.objs.size)).get? b = some o := fun b o e => Heap.get?_push_of_some _ (Heap.get?_push_of_some _ e)
  have hC₁ := kk _ _ hC
  have X₁ := X.keeps kk
  have hget : ((hp.push (tupO rest)).push (excO C hp.objs.size)).get? (hp.objs.size + 1) = some (excO C hp.objs.size) := by heap_get
  have hcC : (Value.ref C :: bm).contains (.ref C) = true := by simp
  unfold isInstance
  repeat (first | with_reducible refine wpAny_loadPart_at hget ?_ | (with_reducible refine wpAny_isSubtype_exc hC₁ ?_; rw [hcC]) | wp_step)
  show wpAny _ _ (typeLookup (.ref C) _) _ _ _
  refine (looks_findIn X₁ hi).at ?_
  refine wpAny_holding (wpAny_bind ((bind_fn X₁ _ hf).at (wpAny_bind (wpAny_mono hq (fun r s' hr => ?_) fun _ _ x => x))))
  obtain ⟨rfl, hQ⟩ := hr
  wp_walk
  exact hQ

/-- a call of an own exception class that bears an __init__ -/
theorem exc_call {rest : List Value} {fI : Addr} {Q : Value → Shared → Prop} (F : Fr h₀ L s.heap m) (N : News h₀ L s.heap news) (X₀ : K.In h₀) (hb : excBm C bm = true)
    (hC : K.lookup C = some (excClassObj nm q C Nn bs bm hdct sn sub ab col dd k0 k1 k2 k3 k5 "Exception.__new__")) (hi : findIn K (.ref C) "__init__" = some (some (.ref fI))) (hf : typeIn K (.ref fI) = some (.type "function"))
    (hq : ∀ e tp h', Fr h₀ L h' m → News h₀ L h' ((e, excO C tp) :: (tp, tupO rest) :: news) → (∀ p ∈ news, p.1 < tp) → tp < e →
      wpAny (model prog w) (A.under (.builtin "type.__call__" ⟨.ref C :: rest, []⟩)) (call (.ref fI) (.ref e :: rest)) (fun r s' => r = .none ∧ Q (.ref e) s') E { s with heap := h' }) (hrest : rest.length ≤ sizeLine) :
    wpAny (model prog w) A (call (.ref C) rest) Q E s := by
  obtain ⟨hp, g, d, t, os⟩ := s
  have X := X₀.keeps F.keep
  have hC' := X _ _ hC
  have f1 := tc_lookup
  have f2 := tc_bind (.ref C)
  have hT : (⟨hp, g, d, t, os⟩ : Shared).TypeIs (.ref C) "type" := ⟨_, hC', rfl⟩
  refine wpAny_call (codeAny_of_tree ?_)
  show wpAny _ _ (callAny (.ref C) _) _ _ _
  repeat (any_goals (first | assumption | with_reducible refine wpAny_loadPart_at hC' ?_ | wp_step))
  refine ⟨rfl, ?_⟩
  refine codeAny_call_builtin_at (Code.quiet_builtin _ (by decide +kernel)) entry_typeCall (wpAny_check_type_call_sub hC' (exc_type_call (hrest := hrest) X hb hC' hi hf ?_))
  have N₁ := (N.push F (tupO rest)).push (F.push _) (excO C hp.objs.size)
  rw [Heap.size_push] at N₁
  exact hq _ _ _ ((F.push _).push _) N₁ (fun p hp => Heap.lt_size (N p hp).1) (Nat.lt_succ_self _)

/-- Exception.__init__ upon an exception: the first field turns -/
theorem exc_base_init {x : Addr} {ox : Obj} {vs : Array Value} {rest : List Value} {pre post : List (Addr × Obj)} {Q : Value → Shared → Prop} (F : Fr h₀ L s.heap m) (N : News h₀ L s.heap (pre ++ (x, ox) :: post)) (X₀ : K.In h₀) (hb : excBm C bm = true)
    (hC : K.lookup C = some (excClassObj nm q C Nn bs bm hdct sn sub ab col dd k0 k1 k2 k3 k5 "Exception.__new__"))
    (hcl : ox.cls = .ref C) (hda : ox.data = .fields vs) {t0 : Addr} (h0 : vs[0]? = some (.ref t0)) (h1 : ∀ p ∈ pre, p.1 ≠ x) (h2 : ∀ p ∈ post, p.1 ≠ x)
    (h : ∀ tp h', Fr h₀ L h' m → News h₀ L h' ((tp, tupO rest) :: (pre ++ (x, { ox with data := .fields (vs.setIfInBounds 0 (.ref tp)) }) :: post)) → (∀ p ∈ pre ++ (x, ox) :: post, p.1 < tp) → Q .none { s with heap := h' })
    (hrest : rest.length ≤ sizeLine) :
    wpAny (model prog w) A (call (.builtin "Exception.__init__") (.ref x :: rest)) Q E s := by
  have FE := PySem.F.excBase_Exception
  have X := X₀.keeps F.keep
  have Nx := N (x, ox) (by simp)
  obtain ⟨hh, g, d, t, os⟩ := s
  refine wpAny_call (codeAny_call_builtin FE.init.plain FE.initEntry (exc_check_init hb (X _ _ hC) Nx.1 hcl ?_))
  have lt : ∀ p ∈ pre ++ (x, ox) :: post, p.1 < hh.objs.size := fun p hp => Heap.lt_size (N p hp).1
  have F₁ := F.push (tupO rest)
  have N₁ : News h₀ L (hh.push (tupO rest)) (((hh.objs.size, tupO rest) :: pre) ++ (x, ox) :: post) := N.push F (tupO rest)
  obtain ⟨oc, odi, oda, osl⟩ := ox
  dsimp only at hcl hda
  subst hcl hda
  obtain ⟨F₂, N₂⟩ := news_upd (f := Obj.mapFields (·.setIfInBounds 0 (Value.ref hh.objs.size))) (o' := ⟨.ref C, odi, .fields (vs.setIfInBounds 0 (.ref hh.objs.size)), osl⟩) F₁ N₁ (fun p hp => by
    rcases List.mem_cons.mp hp with rfl | hp
    · exact Nat.ne_of_gt (lt _ (List.mem_append_right _ (.head _)))
    · exact h1 p hp) h2 rfl rfl
  have hget := Nx.1
  wp_walk
  rw [h0]
  wp_walk
  rw [if_pos (Array.getElem?_eq_some_iff.mp h0).1]
  wp_walk
  exact h _ _ F₂ N₂ lt
end
end
end Mine
end -- Ex4
section -- Ex5
open PySem PySem.W PySem.Calls PyProof.Rows PySem.Spec Builtin Builtin.ObjectAttr Builtin.Getset_descriptor
set_option Elab.async false
set_option maxRecDepth 100000
namespace Mine
section
variable {nm q : Str} {C Nn : Addr} {bs bm : List Value} {hdct : Bool} {sn : List Str} {sub : List Value} {ab : Bool} {col : Option Bool} {dd : Option Addr} {k0 k1 k2 k3 k5 : Option Value}
variable {prog : Program} {w : World} {A : Around} {E : Value → Shared → Prop} {s : Shared} {K : Frag} {env : Env}

theorem raise_stmt {x : Sem Value} {Q : Flow → Shared → Prop} (hb : excBm C bm = true) (hC : K.lookup C = some (excClassObj nm q C Nn bs bm hdct sn sub ab col dd k0 k1 k2 k3 k5 "Exception.__new__")) (hh : A.handled = none)
    (h : wpAny (model prog w) A x (fun v s₁ => ∃ e t oe, v = .ref e ∧ K.In s₁.heap ∧ s₁.heap.get? e = some oe ∧ oe.cls = .ref C ∧ oe.data = .fields #[.ref t, .none, .none, .none, .bool false, .none] ∧ E (.ref e) s₁) E s) :
    wpAny (model prog w) A (raiseStmt env (some x) none) Q E s := by
  have hcB : (Value.ref C :: bm).contains (.type "BaseException") = true := by unfold excBm at hb; simp only [Bool.and_eq_true] at hb; exact hb.1.1.2
  unfold raiseStmt
  refine wpAny_bind (wpAny_mono h (fun v s₁ h₁ => ?_) fun _ _ x => x)
  obtain ⟨e, t, oe, rfl, X, he, hc, hd, hE⟩ := h₁
  obtain ⟨hp, g, d, tk, os⟩ := s₁
  obtain ⟨c0, d0, dt0, sl0⟩ := oe
  dsimp only at hc hd
  subst hc hd
  have hC' := X _ _ hC
  repeat (first | with_reducible refine wpAny_loadPart_at he ?_ | with_reducible refine wpAny_loadPart_at hC' ?_ | (with_reducible refine wpAny_isSubtype_exc hC' ?_; rw [hcB]) | wp_step)
  exact wpAny_raiseNew_none hh hE

theorem raise_exc {exc : Expr} {pos : Pos} {Q : Flow → Shared → Prop} (hb : excBm C bm = true) (hC : K.lookup C = some (excClassObj nm q C Nn bs bm hdct sn sub ab col dd k0 k1 k2 k3 k5 "Exception.__new__")) (hh : A.handled = none)
    (h : wpAny (model prog w) A (eval exc env) (fun v s₁ => ∃ e t oe, v = .ref e ∧ K.In s₁.heap ∧ s₁.heap.get? e = some oe ∧ oe.cls = .ref C ∧ oe.data = .fields #[.ref t, .none, .none, .none, .bool false, .none] ∧ E (.ref e) s₁) E s) :
    wpAny (model prog w) A (exec (.Raise (some exc) none pos) env) Q E s := by
  rw [arm_exec_Raise]
  simp only [evalOpt, Option.map]
  refine wpAny_bind (wpAny_standAt (raise_stmt hb hC hh (wpAny_bind (wpAny_mono h (fun v s₃ h₃ => wpAny_bind (wpAny_standAt (wpAny_pure h₃))) fun _ _ x => x))))
end
end Mine
end -- Ex5
section -- Ex6
open PySem PySem.W PySem.Calls PyProof.Rows PySem.Spec Builtin Builtin.ObjectAttr Builtin.Getset_descriptor
set_option Elab.async false
set_option maxRecDepth 100000
namespace Mine
section
variable {prog : Program} {w : World} {A : Around} {E : Value → Shared → Prop} {s : Shared} {K : Frag} {L C x : Addr} {h₀ : Heap} {m : Str → Option Value} {led led' : List (Addr × Obj)} {g : Obj → List (Addr × Obj)} {ox : Obj} {vs : Array Value} {name : Str} {v : Value}
theorem base_initU {nm q : Str} {Nn : Addr} {bs bm : List Value} {hdct : Bool} {sn : List Str} {sub : List Value} {ab : Bool} {col : Option Bool} {dd : Option Addr} {k0 k1 k2 k3 k5 : Option Value} {rest : List Value} {Q : Value → Shared → Prop}
    (F : Fr h₀ L s.heap m) (N : News h₀ L s.heap led) (X₀ : K.In h₀) (hC : K.lookup C = some (excClassObj nm q C Nn bs bm hdct sn sub ab col dd k0 k1 k2 k3 k5 "Exception.__new__")) (hb : excBm C bm = true) (U : UpdF x ox led g)
    (hcl : ox.cls = .ref C) (hda : ox.data = .fields vs) {t0 : Addr} (h0 : vs[0]? = some (.ref t0))
    (h : ∀ tp h', Fr h₀ L h' m → News h₀ L h' ((tp, tupO rest) :: g { ox with data := .fields (vs.setIfInBounds 0 (.ref tp)) }) → (∀ p ∈ led, p.1 < tp) → Q .none { s with heap := h' })
    (hrest : rest.length ≤ sizeLine) :
    wpAny (model prog w) A (call (.builtin "Exception.__init__") (.ref x :: rest)) Q E s := by
  obtain ⟨pre, post, rfl, e, h1, h2⟩ := U.split
  refine exc_base_init (hrest := hrest) F N X₀ hb hC hcl hda h0 h1 h2 fun tp h' F' N' l => ?_
  exact h tp h' F' (by rw [e]; exact N') l

theorem set_firstU {Q : Unit → Shared → Prop} (F : Fr h₀ L s.heap m) (N : News h₀ L s.heap led) (X₀ : K.In h₀) (U : UpdF x ox led g) (hcl : ox.cls = .ref C) (hdn : ox.dict = none) (hda : ox.data = .fields vs)
    (hs : findIn K (.ref C) "__setattr__" = some (some (.builtin "object.__setattr__"))) (hp : excOver K C = true) (ht : takerIn K C name = some none)
    (h : ∀ dx h', Fr h₀ L h' m → News h₀ L h' ((dx, dictOf [⟨PyData.keyHash w.params name, .str name (s.toks + 1), v⟩] 1) :: g { ox with dict := some dx }) → (∀ p ∈ led, p.1 < dx) → Q () { s with heap := h', toks := s.toks + 2 }) :
    wpAny (model prog w) A (setAttr (.ref x) name v) Q E s := by
  obtain ⟨pre, post, rfl, e, h1, h2⟩ := U.split
  refine esa_first F N X₀ hcl hdn hda hs hp ht h1 h2 fun dx h' F' N' l => ?_
  exact h dx h' F' (by rw [e]; exact N') l

theorem set_nextU {dx : Addr} {es es' : List DictEntry} {n n' : Nat} {Q : Unit → Shared → Prop} (F : Fr h₀ L s.heap m) (N : News h₀ L s.heap led) (X₀ : K.In h₀) (hx : (x, ox) ∈ led) (hcl : ox.cls = .ref C) (hdd : ox.dict = some dx) (hda : ox.data = .fields vs)
    (hs : findIn K (.ref C) "__setattr__" = some (some (.builtin "object.__setattr__"))) (hp : excOver K C = true) (ht : takerIn K C name = some none)
    (hD : (dx, dictOf es n) ∈ led) (hl : (getL name es).isSome = true)
    (e : (putL name (PyData.keyHash w.params name) (.str name (s.toks + 1)) v es, putN name es n) = (es', n')) (U : Upd dx (dictOf es n) (dictOf es' n') led led') (hz : es'.length ≤ 1000)
    (h : ∀ h', Fr h₀ L h' m → News h₀ L h' led' → Q () { s with heap := h', toks := s.toks + 2 }) :
    wpAny (model prog w) A (setAttr (.ref x) name v) Q E s := by
  have I : InstAt s.heap x ox C (some (dictOf es n)) := ⟨(N _ hx).1, hcl, by unfold notCls; rw [hda], by rw [hdd]; exact (N _ hD).1⟩
  obtain ⟨pre, post, rfl, rfl, h1, h2⟩ := U.split
  exact esa_dict F N X₀ I hdd hs hp ht hl h1 h2 e hz h

theorem exc_getU {dx : Addr} {es : List DictEntry} {n : Nat} {attr : Option Value} {expr : Bool} {Q : Value → Shared → Prop} (F : Fr h₀ L s.heap m) (N : News h₀ L s.heap led) (X₀ : K.In h₀) (hx : (x, ox) ∈ led) (hcl : ox.cls = .ref C) (hdd : ox.dict = some dx) (hda : ox.data = .fields vs)
    (hga : findIn K (.ref C) "__getattribute__" = some (some (.builtin "BaseException.__getattribute__"))) (hgb : findIn K (.ref C) "__getattr__" = some none) (hp : excOver K C = true) (hh : hasDictIn K C = true)
    (ha : findIn K (.ref C) name = some attr) (hn : noGet K attr = true) (hD : (dx, dictOf es n) ∈ led) (hl : getL name es = some (some v)) (hv : handedIn v = true)
    (h : Q v { s with toks := s.toks + 1 }) : wpAny (model prog w) A (getAttr (.ref x) name expr) Q E s := by
  have I : InstAt s.heap x ox C (some (dictOf es n)) := ⟨(N _ hx).1, hcl, by unfold notCls; rw [hda], by rw [hdd]; exact (N _ hD).1⟩
  exact exc_get (X₀.keeps F.keep) I hga hgb hp (findObj_own hh ha hn (by rw [lookIn_dict]; exact hl)) hv h
end
end Mine
end -- Ex6
section -- Ex7
open PySem PySem.W PySem.Calls PyProof.Rows PySem.Spec
set_option Elab.async false
set_option maxRecDepth 100000
namespace Mine
section
variable {prog : Program} {w : World} {A₀ A : Around} {s : Shared} {base h₀ g₀ : Heap} {outer : List Env} {env : Env} {L : Addr} {m : Str → Option Value} {news : List (Addr × Obj)} {K : Frag} {p : Program} {loose : List Str} {mean : ExcName → Option Value} {mg mb : Str → Option Value}
    {R : Result → Shared → Prop} {name qual : Str} {params : Arguments} {body : List Stmt} {scope : Scope} {dV kV doc pm cdv ct oc : Value} {an od : Option Addr} {osl : Array (Option Value)} {f : Addr} {args : Args} {binds : List (Str × Value)}
theorem frame_mem {b : Addr} (hf : env.frame = some L) (hm : b ∈ (env :: outer).filterMap (·.frame)) : b = L ∨ b ∈ outer.filterMap (·.frame) := by
  rw [List.filterMap_cons_some hf] at hm
  exact List.mem_cons.mp hm
/-- the ground of a call out of any frame, cells or none -/
theorem ground_any {X : Prop} (B : Below A₀ base outer h₀) (F : Fr h₀ L s.heap m) (N : News h₀ L s.heap news) (hA : A.frames = some (env :: outer)) (hf : env.frame = some L) (hke : env.scope.kind = .function)
    (k : ∀ oL es ep, (hideAll s.heap (news.map (·.1))).get? L = some oL → oL.data = .dict es ep → (∀ (sl : Array (Option Value)) h', h'.get? L = some { oL with slots := sl } → Heap.Ns h' L m) →
      h₀.StaysIn (hideAll s.heap (news.map (·.1))) → Below A base (env :: outer) (hideAll s.heap (news.map (·.1))) → X) : X := by
  obtain ⟨FG, BG, st, _⟩ := groundX (R := fun _ _ => True) B F N hA hf hke
  obtain ⟨oL, es, ep, r⟩ := FG.ns
  exact k oL es ep r.1 r.2.1 (fun sl h' e => ⟨_, es, ep, e, r.2⟩) st BG
theorem defS_any (B : Below A₀ base outer h₀) (F : Fr h₀ L s.heap m) (X₀ : K.In h₀) (N : News h₀ L s.heap news) (T : Top p loose mean mg mb h₀) (XB : K.In base) (TB : Top p loose mean mg mb base) (D : KtsDicts (outer.filterMap (·.frame)) h₀)
    (T0 : KtsTurn (outer.filterMap (·.frame)) g₀ h₀) (hA : A.frames = some (env :: outer)) (hf : env.frame = some L) (hke : env.scope.kind = .function)
    (ho : K.lookup f = some ⟨oc, od, .func (fnOf name qual params body scope dV kV doc pm an cdv ct), osl⟩) (hcd : codeIn K cdv qual = true) (hroom : A.depth < recursionLimit)
    (hbind : BindsTo s (fnOf name qual params body scope dV kV doc pm an cdv ct) args binds) (hloc : ∀ y ∈ binds, scope.names.lookup y.1 = some .local)
    (h : ∀ g L' h₁, Fr h₀ L g m → Fr g L' h₁ (fun y => binds.reverse.lookup y) → News g L' h₁ news → Below A base (env :: outer) g → K.In g → Top p loose mean mg mb g → KtsDicts ((env :: outer).filterMap (·.frame)) g →
      wpAny (model prog w) (A.deeper (envOf qual scope L' f cdv)) (execs body (envOf qual scope L' f cdv))
        (fun fl s' => LeaveS ((env :: outer).filterMap (·.frame)) A₀ base outer K p loose mean mg mb g₀ h₀ L m g R (match fl with | .ret v => v | _ => .none) s')
        (fun e s' => wpAny (model prog w) (A.deeper (envOf qual scope L' f cdv)) (leaving (envOf qual scope L' f cdv) e) (fun _ s'' => R (.error e) s'') (fun e' s'' => R (.error e') s'') s')
        { s with heap := h₁, toks := s.toks + binds.length })
    (hco : scope.isCoroutine = false) (hgen : scope.isGenerator = false) (hk : scope.kind = .function)
    (hcell : ∀ x ∈ scope.names, x.2 ≠ .cell) : codeAny (model prog w) A (.call (.ref f) args) R s := by
  have X := X₀.keeps F.keep
  refine codeAny_call_def (fd := fnOf name qual params body scope dV kV doc pm an cdv ct) (body := body) (binds := binds) hroom (X _ _ ho) rfl (T.nolimit.keeps F.keep) (codeRec_of X hcd) rfl hbind hcell hloc (fun h₁ hns hk₁ => ?_) hco hgen hk
  refine ground_any B F N hA hf hke fun oL es ep hLg hLd hNs st B₂ => ?_
  have hN : ∀ h', h'.get? L = some oL → Heap.Ns h' L m := fun h' e => hNs oL.slots h' e
  refine wpAny_mono (h _ s.heap.objs.size h₁ ⟨hN _ hLg, st, F.above⟩ ⟨hns, fun b o e => hk₁ b o (of_hideAll _ e), Nat.le_of_eq (hideAll_size _ _)⟩
    (fun q hq => ⟨hk₁ _ _ (N q hq).1, Nat.ne_of_lt (Heap.lt_size (N q hq).1), hideAll_none _ (List.mem_map_of_mem hq)⟩) B₂ (X₀.keeps st) (T.keeps st) (fun b hb => by
      rcases frame_mem hf hb with rfl | hb
      · exact ⟨oL, es, ep, hLg, hLd⟩
      · obtain ⟨o, es', n', ho', hd'⟩ := D b hb
        exact ⟨o, es', n', st b o ho', hd'⟩)) (fun fl s' hl => ?_) fun _ _ y => y
  have nL₀ : h₀.get? L = none := kts_self F
  rcases hl with ⟨L', m', news', F', N', k⟩ | ⟨g', L', m', news', T', F', N', k⟩
  · refine k ⟨hN _ (F'.keep _ _ hLg), fun b o e => F'.keep b o (st b o e), F.above⟩ fun q hq => ⟨(N' q hq).1, fun z => ?_, ?_⟩
    · have := (N' q hq).2.2; rw [z, hLg] at this; cases this
    · cases z : h₀.get? q.1 with
      | none => rfl
      | some o => have := (N' q hq).2.2; rw [st _ _ z] at this; cases this
  obtain ⟨sl, hs⟩ := T'.up hLg
  obtain ⟨T₁, S₁⟩ := kts_turn_at (h := s'.heap) (fs := outer.filterMap (·.frame)) (g := h₀)
    (fun b hb => by
      obtain ⟨_, o, ho', _⟩ := B.frames.mem hb
      exact ⟨o, ho'⟩)
    (fun b o e nmem => F'.keep b o (T'.other b o (st b o e) (fun z => by
      rcases frame_mem hf z with z | z
      · rw [z, nL₀] at e
        cases e
      · exact nmem z)))
    (fun b o e hm => by
      obtain ⟨sl', hs'⟩ := T'.up (st b o e)
      exact ⟨sl', F'.keep _ _ hs'⟩)
  have B₃ : Below A₀ base outer (ktsHeap s'.heap (outer.filterMap (·.frame)) h₀) := ⟨B.stack, fun b o e => T₁.other b o (B.stays b o e) (fun hm => by
    rw [(B.frames.mem hm).1] at e
    cases e), B.frames.of_keeps fun b o e _ => by
    obtain ⟨sl', hs'⟩ := T₁.up e
    exact ⟨_, hs', rfl⟩⟩
  refine k _ (T0.trans T₁) ⟨hNs sl _ (F'.keep _ _ hs), S₁, by rw [T₁.size]; exact F.above⟩ (fun q hq => ⟨(N' q hq).1, fun z => ?_, ?_⟩) B₃ (XB.keeps B₃.stays) (TB.keeps B₃.stays) (D.turn T₁)
  · have := (N' q hq).2.2; rw [z, hs] at this; cases this
  · refine T₁.none_ _ ?_
    cases z : h₀.get? q.1 with
    | none => rfl
    | some o =>
      obtain ⟨sl', hs'⟩ := T'.up (st _ _ z)
      have := (N' q hq).2.2
      rw [hs'] at this
      cases this
end
end Mine
end -- Ex7
section -- Ex8
open PySem PySem.W PySem.Calls PyProof.Rows PySem.Spec
set_option Elab.async false
set_option maxRecDepth 100000
namespace Mine
section
variable {M : Model} {A : Around} {E : Value → Shared → Prop} {s : Shared} {env : Env} {st : Stmt} {rest : List Stmt} {Q : Flow → Shared → Prop}
/-- what stands behind a statement -/
noncomputable def Cont (M : Model) (A : Around) (rest : List Stmt) (env : Env) (E : Value → Shared → Prop) (Q : Flow → Shared → Prop) (f : Flow) (s' : Shared) : Prop :=
  match f with
  | .next => wpAny M A (execs rest env) Q E s'
  | f => Q f s'
theorem Cont.next (h : wpAny M A (execs rest env) Q E s) : Cont M A rest env E Q .next s := h
theorem Cont.ret {v : Value} (h : Q (.ret v) s) : Cont M A rest env E Q (.ret v) s := h
theorem Cont.brk (h : Q .brk s) : Cont M A rest env E Q .brk s := h
theorem Cont.cont (h : Q .cont s) : Cont M A rest env E Q .cont s := h
theorem execs_F (h : let q := Cont M A rest env E Q; wpAny M A (exec st env) q E s) : wpAny M A (execs (st :: rest) env) Q E s :=
  wpAny_execs_cons (wpAny_mono h (fun f _ x => by cases f <;> exact x) fun _ _ x => x)
theorem execs_1 (h : wpAny M A (exec st env) Q E s) : wpAny M A (execs [st] env) Q E s :=
  wpAny_execs_cons (wpAny_mono h (fun f _ x => by cases f <;> first | exact x | exact wpAny_execs_nil x) fun _ _ x => x)
theorem unmd {f : Flow} (h : Q f s) : Q f s := h
end
end Mine
end -- Ex8
section -- Ct
open PySem PySem.W PySem.Calls PyProof.Rows PySem.Spec
set_option Elab.async false
set_option maxRecDepth 100000
namespace Mine
noncomputable abbrev MP : Program := PySem.Challenge.rw_sy0050_01.row.prog
noncomputable abbrev ML : List Str := looseW Mine.hd.view_39 [Str.ofString "SyntaxFault", Str.ofString "char_of", Str.ofString "text_in_value"]
theorem fillK : PySem.Challenge.rw_sy0050_01 = PySem.Challenge.rw_sy0050_01 → Mine.hd.heap_39 = Mine.hd.heap_39 := by
  k_fill
  intro _; rfl

noncomputable def Stop (p : Prop) : Prop := p
theorem Stop.at {p : Prop} (h : Stop p) : p := h
theorem Stop.by {p : Prop} (h : p) : Stop p := h
/-- a call within a frame of the text's own: what it asks of the frame and the heap, and what comes back -/
noncomputable abbrev CallsTo (w : World) (mean : ExcName → Option Value) (mg mb : Str → Option Value) (kk : Nat) (f : Addr) (led : List (Addr × Obj)) (vs : List Value)
    (Post : (base h₀ : Heap) → (fr : List Env) → (L : Addr) → (m : Str → Option Value) → (s : Shared) → (Q E : Value → Shared → Prop) → Prop) : Prop :=
  ∀ (dp un : Nat) (gd : Option (List Code)) (cn : Str) (cs : Scope) (a : Addr) (ccd : Value) (cl : List (Str × Addr)) (outer : List Env) (A₀ : Around) (base h₀ : Heap) (L : Addr) (m : Str → Option Value) (s : Shared) (Q E : Value → Shared → Prop),
    Below A₀ base outer h₀ → Fr h₀ L s.heap m → (Mine.hd.heap_39 w.params).In h₀ → News h₀ L s.heap led → Top Mine.hd.view_39 ML mean mg mb h₀ → cs.kind = .function →
    dp + kk < recursionLimit → un + 8 * kk < cLine → Post base h₀ (envX cn cs L a ccd cl :: outer) L m s Q E →
      wpAny (model MP w) (ktrTop dp un gd cn cs L a ccd cl outer) (call (.ref f) vs) Q E s

/-- it comes back with v and the ledger led -/
noncomputable abbrev RetTo (h₀ : Heap) (L : Addr) (m : Str → Option Value) (s : Shared) (Q : Value → Shared → Prop) (v : Value) (led : List (Addr × Obj)) : Prop :=
  ∀ (h' : Heap) (tk' : Nat), Fr h₀ L h' m → News h₀ L h' led → Q v { s with heap := h', toks := tk' }
/-- a fault at place p comes out, the ledger led behind it -/
noncomputable abbrev ExcTo (P : Params) (base h₀ : Heap) (fr : List Env) (L : Addr) (m : Str → Option Value) (s : Shared) (E : Value → Shared → Prop) (p : Int) (led : List (Addr × Obj)) : Prop :=
  ∀ (e : Addr) (G h' : Heap) (tk' : Nat), Fr h₀ L G m → G.UpToSlots h' → RaisedF P 150 base G fr e p led h' → E (.ref e) { s with heap := h', toks := tk' }

/-- a def that leaves the ledger alone -/
noncomputable def PM (w : World) (mean : ExcName → Option Value) (mg mb : Str → Option Value) (kk : Nat) (f : Addr) (vs : List Value) (Post : (Value → Prop) → (Int → Prop) → Prop) : Prop :=
  ∀ led, CallsTo w mean mg mb kk f led vs fun base h₀ fr L m s Q E => Post (fun v => RetTo h₀ L m s Q v led) (fun p => ExcTo w.params base h₀ fr L m s E p led)


local macro_rules | `(tactic| k_room) => `(tactic| ktr_room)

theorem exc150 (P : Params) : excOver (Mine.hd.heap_39 P) 150 = true := by kernel_rfl
theorem sub_cons {α : Type} {a : α} {l m : List α} (h : a ∈ m) (hs : ∀ p ∈ l, p ∈ m) : ∀ p ∈ a :: l, p ∈ m := fun p hp => (List.mem_cons.mp hp).elim (fun e => e ▸ h) (hs p)
theorem mem_mid {α : Type} {a : α} {pre post : List α} : ∀ p ∈ pre ++ post, p ∈ pre ++ a :: post := fun _ hp => (List.mem_append.mp hp).elim (List.mem_append_left _) fun q => List.mem_append_right _ (.tail _ q)
theorem led2 {h₀ h : Heap} {L : Addr} {a b : Addr × Obj} {rest l : List (Addr × Obj)} (N : News h₀ L h l) (ha : a ∈ l) (hb : b ∈ l) (hr : ∀ p ∈ rest, p ∈ l) : News h₀ L h (a :: b :: rest) := fun p hp => N p (sub_cons ha (sub_cons hb hr) p hp)
theorem meta_Exception : typeOf (.type "Exception") = pure (.type "type") := by kernel_rfl
local macro_rules | `(tactic| walk_at "getMethod type:Exception") => `(tactic| (k_here; refine Stop.at ?_))

local macro_rules | `(tactic| walk_at "call builtin:Exception.__init__") => `(tactic| (k_here; refine Stop.at ?_))
local macro_rules | `(tactic| walk_at "setAttr ref") => `(tactic| (k_here; refine Stop.at ?_))

set_option maxHeartbeats 2000000 in
/-- an exception's __init__ -/
theorem init_spec (w mean mg mb) (e tp : Addr) (mv : Str) (tm : CTok) (p : Int) (tpp : CTok) (rest : List (Addr × Obj)) (hr : OwnOff rest [e]) :
    CallsTo w mean mg mb 2 147 ((e, excO 150 tp) :: rest) [.ref e, .str mv tm, .int p tpp] fun base h₀ fr L m s Q E =>
      ∀ de oe t1 t2, AllLt de rest → @LT.lt Nat _ e de → oe.cls = .ref 150 → oe.dict = some de → (∃ t, oe.data = .fields #[.ref t, .none, .none, .none, .bool false, .none]) →
        RetTo h₀ L m s Q .none ((e, oe) :: (de, faultD w.params t1 (.str mv tm) t2 p tpp) :: rest) := by
  unfold CallsTo
  intros
  rename_i hret
  refine wpAny_call ?_
  k_dflt (refine' code_def ?k1 ?k2 ?k3 ?k4 ?k5 ?kA ?kF ?kK ?k6 ?k7 ?k8 ?k9 ?kB ?_ ?c2 ?c3 ?c4 ?c5; (case kA => exact rfl); (case kF => exact rfl); (case kK => first | exact rfl | assumption); (case k1 => k_asm); (case k2 => k_asm); (case k3 => k_asm); (case k4 => k_asm); (case k5 => k_asm); (case k6 => k_is); (case k7 => k_is); (case k8 => ktr_room); (case k9 => first | exact BindsTo.of_eq rfl | exact binds_K (by k_in) rfl (by k_is) rfl rfl rfl); (case c5 => decide); (case kB => exact locs rfl); (case c2 => exact rfl); (case c3 => exact rfl); (case c4 => exact rfl); k_whole; intro g' L' h' FG' F' N' B' X' T'; (try dsimp only); (try k_fold))
  k_steps
  repeat' ((with_reducible refine Stop.by ?_); (first | ((with_reducible show wpAny _ _ (getMethod (Value.type _) _ _) _ _ _); refine' method_type ?F ?X ?m (by decide +kernel) ?e ?h ?_; (case F => k_asm); (case X => k_asm); (case m => exact meta_Exception); (case e => k_dflt k_is); (case h => k_handed)) | ((with_reducible show wpAny _ _ (call (Value.builtin "Exception.__init__") _) _ _ _); k_dflt (refine' base_initU (C := 150) (hrest := by size_fits) ?F ?N ?X ?C ?b ?U ?r1 ?r2 ?r3 ?_; (case F => k_asm); (case N => k_asm); (case X => k_asm); (case C => k_is); (case b => decide); (case U => k_updF); (case r1 => exact rfl); (case r2 => exact rfl); (case r3 => exact rfl); k_whole; intro tp' h' F' N' l1; (try dsimp only at N'); (try k_lt l1); (try k_sweep))) | ((with_reducible show wpAny _ _ (setAttr (Value.ref _) _ _) _ _ _); k_dflt (first
  | (refine' set_firstU (C := 150) ?F ?N ?X ?U ?r1 ?r2 ?r3 ?a ?b ?c ?_; (case F => k_asm); (case N => k_asm); (case X => k_asm); (case U => k_updF); (case r1 => exact rfl); (case r2 => exact rfl); (case r3 => exact rfl); (case a => k_is); (case b => exact exc150 _); (case c => k_is); k_whole; intro dx' h' F' N' l1; (try dsimp only at N'); (try k_lt l1); (try k_sweep))
  | (refine' set_nextU (C := 150) ?F ?N ?X ?x ?r1 ?r2 ?r3 ?a ?b ?c ?D ?l ?e ?U ?z ?_; (case F => k_asm); (case N => k_asm); (case X => k_asm); (case x => k_mem); (case r1 => exact rfl); (case r2 => exact rfl); (case r3 => exact rfl); (case a => k_is); (case b => exact exc150 _); (case c => k_is); (case D => k_mem); (case l => exact rfl); (case e => k_put); (case U => k_upd); (case z => exact Nat.le_of_ble_eq_true rfl); k_whole; intro h' F' N'; (try k_sweep))))); k_steps)
  rename_i kN _ _
  rename _ ∧ _ ∧ AllLt _ _ => l1
  refine' hret _ _ _ _ l1.2.2 l1.2.1 ?a ?b ?c _ _ ?F (led2 kN (List.Mem.tail _ (List.Mem.tail _ (List.Mem.head _))) ?y ?z)
  case y => k_dflt exact List.Mem.head _
  case z => intro p hp; k_ownIn
  case a => exact rfl
  case b => exact rfl
  case c => exact ⟨_, by with_unfolding_all rfl⟩
  case F => k_asm
end Mine
end -- Ct
section -- Sf
open PySem PySem.W PySem.Calls PyProof.Rows PySem.Spec
set_option Elab.async false
set_option maxRecDepth 100000
namespace Mine
theorem sf_call (w mean mg mb) (mv : Str) (tm : CTok) (p : Int) (tpp : CTok) (led : List (Addr × Obj)) :
    CallsTo w mean mg mb 4 150 led [.str mv tm, .int p tpp] fun base h₀ fr L m s Q E =>
      ∀ e t oe h' tk', (Mine.hd.heap_39 w.params).In h' → h'.get? e = some oe → oe.cls = .ref 150 → oe.data = .fields #[.ref t, .none, .none, .none, .bool false, .none] → MadeF w.params 150 h₀ L m e p led h' → Q (.ref e) { s with heap := h', toks := tk' } := by
  intro dp un gd cn cs a ccd cl outer A₀ base h₀ L m s Q E B F X N T hk hd hu hret
  refine' exc_call (hrest := by size_fits) F N X ?b ?C ?i ?f ?_
  case C => k_is
  case b => decide
  case i => k_is
  case f => k_is
  intro e tp h' F' N' l1 l2
  have hr : OwnOff ((tp, tupO [.str mv tm, .int p tpp]) :: led) [e] := by
    intro q hq b hb
    rw [List.mem_singleton.mp hb]
    rcases List.mem_cons.mp hq with rfl | hq
    · exact Nat.ne_of_lt l2
    · exact Nat.ne_of_lt (Nat.lt_trans (l1 q hq) l2)
  have hw : (Code.builtin "type.__call__" ⟨[.ref 150, .str mv tm, .int p tpp], []⟩).weight ≤ 2 := Nat.le_of_ble_eq_true rfl
  have hcu : (Code.builtin "type.__call__" ⟨[.ref 150, .str mv tm, .int p tpp], []⟩).cUnits ≤ 4 := Nat.le_of_ble_eq_true rfl
  refine' init_spec w mean mg mb e tp mv tm p tpp _ hr _ _ _ _ _ _ _ _ _ _ _ _ _ _ _ _ _ B F' X N' T hk ?d ?u ?_
  case d => ktr_room
  case u =>
    show un + (Code.builtin "type.__call__" ⟨[.ref 150, .str mv tm, .int p tpp], []⟩).cUnits + 8 * 2 < cLine
    (first | lia | omega)
  intro de oe t1 t2 q1 q2 hc hdd ⟨t, hdt⟩ h'' tk'' F'' N''
  refine ⟨rfl, hret e t oe h'' tk'' (X.keeps F''.keep) (N'' _ (.head _)).1 hc hdt ⟨de, oe, _, t1, .str mv tm, t2, tpp, F'', fun q hq => N'' q ?_, hc, hdd, hdt, rfl, fun q hq => ?_⟩⟩
  · rcases List.mem_cons.mp hq with rfl | hq
    · exact .head _
    · rcases List.mem_cons.mp hq with rfl | hq
      · exact .tail _ (.head _)
      · exact .tail _ (.tail _ (.tail _ hq))
  · rcases List.mem_cons.mp hq with rfl | hq
    · exact Nat.ne_of_gt q2
    · exact hr q (.tail _ hq) e (.head _)
end Mine
end -- Sf
section -- Tx
open PySem PySem.W PySem.Calls PyProof.Rows PySem.Spec
set_option Elab.async false
set_option linter.unusedVariables false
namespace Mine
/-- the code of the sign at place i -/
noncomputable abbrev ch (T : Str) (i : Nat) : Nat := T.cps.getD i 0
/-- the word W stands in T at i -/
noncomputable def Hit (T W : Str) (i : Nat) : Prop := i + W.length ≤ T.length ∧ (T.cps.toList.drop i).take W.length = W.cps.toList
noncomputable instance (T W : Str) (i : Nat) : Decidable (Hit T W i) := by unfold Hit; infer_instance
/-- the first place of W in T from k on -/
noncomputable def Fst (T W : Str) (k : Nat) : Option Nat → Prop
  | none => ∀ i, k ≤ i → ¬ Hit T W i
  | some j => k ≤ j ∧ Hit T W j ∧ ∀ i, k ≤ i → i < j → ¬ Hit T W i
theorem At_Hit (T W : Str) (i : Nat) : StrLaws.At T W T.length i ↔ Hit T W i := by
  unfold StrLaws.At Hit
  rw [StrLaws.subAt_eq, beq_iff_eq]
theorem Fst.only {T W : Str} {k : Nat} {r r' : Option Nat} (h : Fst T W k r) (h' : Fst T W k r') : r = r' := by
  cases r with
  | none =>
    cases r' with
    | none => rfl
    | some j => exact absurd h'.2.1 (h j h'.1)
  | some i =>
    cases r' with
    | none => exact absurd h.2.1 (h' i h.1)
    | some j =>
      rcases Nat.lt_trichotomy i j with q | q | q
      · exact absurd h.2.1 (h'.2.2 i h.1 q)
      · rw [q]
      · exact absurd h'.2.1 (h.2.2 j h'.1 q)
theorem Fst.le {T W : Str} {k j : Nat} (h : Fst T W k (some j)) : k ≤ j ∧ j + W.length ≤ T.length := ⟨h.1, h.2.1.1⟩
theorem fromIndex_nat (n k : Nat) : fromIndex n (k : Int) = k := by
  unfold fromIndex
  have : ¬ ((k : Int) < 0) := by (first | lia | omega)
  rw [if_neg this]
  (first | lia | omega)
theorem sw_nat (T W : Str) (k : Nat) : Txt.startswith3 T W (k : Int) = decide (Hit T W k) := by
  unfold Txt.startswith3
  rw [fromIndex_nat, StrLaws.subAt_eq, Bool.eq_iff_iff, Bool.and_eq_true, decide_eq_true_eq, decide_eq_true_eq, beq_iff_eq]
  rfl
theorem find3_nat (T W : Str) (k : Nat) : ∃ r, Fst T W k r ∧ Txt.find3 T W (k : Int) = (match r with | none => -1 | some j => (j : Int)) := by
  unfold Txt.find3
  rw [fromIndex_nat]
  rcases StrLaws.occ_head_from T W k 1 (Nat.le_refl 1) with ⟨h0, hn⟩ | ⟨j, r, h0, hlo, hj, hn⟩
  · exact ⟨none, fun i hi => fun q => hn i hi ((At_Hit ..).mpr q), by rw [h0]⟩
  · exact ⟨some j, ⟨hlo, (At_Hit ..).mp hj, fun i h1 h2 q => hn i h1 h2 ((At_Hit ..).mpr q)⟩, by rw [h0]⟩
/-- the part of T from a to b -/
noncomputable def sub (T : Str) (a b : Nat) : Str := ⟨((T.cps.toList.drop a).take (b - a)).toArray⟩
theorem slice_nat (T : Str) {a b : Nat} (hab : a ≤ b) (hb : b ≤ T.length) : Txt.slice T (some (a : Int)) (some (b : Int)) = sub T a b := StrLaws.sliceText_nat T hab hb
theorem ch_eq {T : Str} {i : Nat} (h : i < T.length) : T.cps.toList[i]? = some (ch T i) := StrLaws.getElem?_of_getD h rfl
theorem drop_cons {T : Str} {i : Nat} (h : i < T.length) : T.cps.toList.drop i = ch T i :: T.cps.toList.drop (i + 1) := by
  have h' : i < T.cps.toList.length := h
  rw [List.drop_eq_getElem_cons h']
  have := ch_eq h
  rw [List.getElem?_eq_getElem h'] at this
  rw [Option.some.inj this]
theorem item_nat {T : Str} {k : Nat} (h : k < T.length) : Txt.item T (k : Int) = ⟨#[ch T k]⟩ := by
  unfold Txt.item Txt.charAt
  rw [StrLaws.at_nonneg (n := ch T k) (Int.natCast_nonneg _) ?_]
  · rfl
  · have := ch_eq h
    rw [Array.getElem?_toList] at this
    exact this
theorem peek1 {T : Str} {k : Nat} (h : k < T.length) : sub T k (k + 1) = ⟨#[ch T k]⟩ := by
  unfold sub
  rw [drop_cons h, Nat.add_sub_cancel_left]
  rfl
theorem peek1_end {T : Str} {k : Nat} (h : T.length ≤ k) : sub T k (k + 1) = ⟨#[]⟩ := by
  unfold sub
  have h' : T.cps.toList.length ≤ k := h
  rw [List.drop_eq_nil_of_le h', List.take_nil]
theorem sub_len (T : Str) {a b : Nat} (hab : a ≤ b) (hb : b ≤ T.length) : (sub T a b).length = b - a := by
  have hb' : b ≤ T.cps.toList.length := hb
  show ((T.cps.toList.drop a).take (b - a)).toArray.size = b - a
  simp only [List.size_toArray, List.length_take, List.length_drop]
  (first | lia | omega)
theorem sub_ch (T : Str) {a b i : Nat} (hab : a ≤ b) (hb : b ≤ T.length) (hi : i < b - a) : ch (sub T a b) i = ch T (a + i) := by
  have h1 := ch_eq (T := sub T a b) (i := i) (by rw [sub_len T hab hb]; exact hi)
  have h2 := ch_eq (T := T) (i := a + i) (by (first | lia | omega))
  have e : (sub T a b).cps.toList = (T.cps.toList.drop a).take (b - a) := by unfold sub; simp
  rw [e, List.getElem?_take, if_pos hi, List.getElem?_drop, h2] at h1
  exact (Option.some.inj h1).symm
theorem slice_end (T : Str) {a : Nat} {b : Int} (ha : T.length ≤ a) (hb : (a : Int) ≤ b) : Txt.slice T (some (a : Int)) (some b) = ⟨#[]⟩ := by
  obtain ⟨b, rfl⟩ := Int.eq_ofNat_of_zero_le (Int.le_trans (Int.natCast_nonneg a) hb)
  unfold Txt.slice
  have e : Builtin.Str.strSliceIndices (some (a : Int)) (some (b : Int)) 1 T.length = [] := by
    have h1 : ¬ ((a : Int) < 0) := by (first | lia | omega)
    have h2 : ¬ ((b : Int) < 0) := by (first | lia | omega)
    have e1 : max (0 : Int) (min (a : Int) (T.length : Int)) = T.length := by (first | lia | omega)
    have e2 : max (0 : Int) (min (b : Int) (T.length : Int)) = T.length := by (first | lia | omega)
    simp [Builtin.Str.strSliceIndices, sliceRange, h1, h2, e1, e2]
  rw [e]
  split
  · rename_i h
    have h0 : T.cps.size = 0 := by
      have : 0 = T.length := by simpa using h
      exact this.symm
    cases T
    rename_i cps
    have : cps = #[] := Array.eq_empty_of_size_eq_zero h0
    rw [this]
  · rfl
theorem one_of {S : Str} (h : S.length = 1) : S = ⟨#[ch S 0]⟩ := by
  obtain ⟨⟨l⟩⟩ := S
  have h' : l.length = 1 := h
  match l, h' with
  | [a], _ => rfl
theorem hit_one {T : Str} {c i : Nat} : Hit T ⟨#[c]⟩ i ↔ i < T.length ∧ ch T i = c := by
  have e : Hit T ⟨#[c]⟩ i ↔ T.cps.toList[i]? = some c := by
    rw [← At_Hit]
    exact StrLaws.subAt_one T c i
  rw [e]
  constructor
  · intro h
    obtain ⟨hlt, _⟩ := List.getElem?_eq_some_iff.mp h
    exact ⟨hlt, StrLaws.getD_of_getElem? h⟩
  · rintro ⟨h, rfl⟩
    exact ch_eq h
theorem hit_cons {T : Str} {c : Nat} {l : List Nat} {i : Nat} : Hit T ⟨(c :: l).toArray⟩ i ↔ (i < T.length ∧ ch T i = c) ∧ Hit T ⟨l.toArray⟩ (i + 1) := by
  unfold Hit
  have e1 : (⟨(c :: l).toArray⟩ : Str).length = l.length + 1 := by simp [Str.length]
  have e2 : (⟨l.toArray⟩ : Str).length = l.length := by simp [Str.length]
  rw [e1, e2]
  constructor
  · rintro ⟨h1, h2⟩
    have hi : i < T.length := by (first | lia | omega)
    rw [drop_cons hi, List.take_succ_cons] at h2
    have h3 : ch T i :: (T.cps.toList.drop (i + 1)).take l.length = c :: l := h2
    injection h3 with h3 h4
    exact ⟨⟨hi, h3⟩, by (first | lia | omega), h4⟩
  · rintro ⟨⟨hi, h3⟩, h1, h2⟩
    refine ⟨by (first | lia | omega), ?_⟩
    rw [drop_cons hi, List.take_succ_cons, h3]
    exact congrArg (c :: ·) h2
theorem hit_nil {T : Str} {i : Nat} : Hit T ⟨#[]⟩ i ↔ i ≤ T.length := by
  unfold Hit
  simp [Str.length]
/-- four bounded find of one sign -/
noncomputable def find4 (x y : Str) (i j : Int) : Int := match Builtin.Str.occurrences x y (fromIndex x.length i) (min (fromIndex x.length j) x.length) 1 with | k :: _ => (k : Int) | [] => -1
theorem occ_any (x y : Str) (lo hi : Nat) :
    (Builtin.Str.occurrences x y lo hi 1 = [] ∧ ∀ i, lo ≤ i → i ≤ hi → ¬ StrLaws.At x y hi i) ∨
    ∃ i r, Builtin.Str.occurrences x y lo hi 1 = i :: r ∧ lo ≤ i ∧ StrLaws.At x y hi i ∧ ∀ k, lo ≤ k → k < i → ¬ StrLaws.At x y hi k := by
  rw [StrLaws.occ_eq]
  rcases StrLaws.occ_first x y hi 1 (Nat.le_refl 1) (List.range' lo (hi + 1 - lo)) lo (fun i hi => by have := List.mem_range'_1.mp hi; (first | lia | omega)) with ⟨h0, hn⟩ | ⟨pre, a, post, e, h0, ha, hn⟩
  · refine .inl ⟨by rw [h0], fun i hlo hi' h => hn i (by rw [List.mem_range'_1]; (first | lia | omega)) h⟩
  · have hs := StrLaws.range'_split_from e
    refine .inr ⟨a, ((forIn (List.range' lo (hi + 1 - lo)) ((#[] : Array Nat), lo) (StrLaws.occBody x y hi 1)).run.fst.toList).tail, ?_, hs.1, ha, fun k hk0 hk => hn k (hs.2 k hk0 hk)⟩
    generalize (forIn (List.range' lo (hi + 1 - lo)) ((#[] : Array Nat), lo) (StrLaws.occBody x y hi 1)).run.fst = arr at h0
    have h1 : arr.toList[0]? = some a := by simpa using h0
    cases hL : arr.toList with
    | nil => rw [hL] at h1; cases h1
    | cons b t => rw [hL] at h1; simp at h1; rw [h1]; rfl
theorem at_one {x : Str} {c hi i : Nat} (hh : hi ≤ x.length) : StrLaws.At x ⟨#[c]⟩ hi i ↔ i < hi ∧ ch x i = c := by
  have k := hit_one (T := x) (c := c) (i := i)
  rw [← At_Hit] at k
  unfold StrLaws.At at k ⊢
  have e : (⟨#[c]⟩ : Str).length = 1 := rfl
  rw [e] at k ⊢
  constructor
  · rintro ⟨h1, h2⟩
    exact ⟨h1, (k.mp ⟨by (first | lia | omega), h2⟩).2⟩
  · rintro ⟨h1, h2⟩
    exact ⟨h1, (k.mpr ⟨by (first | lia | omega), h2⟩).2⟩
theorem find4_nat (T : Str) (c : Nat) {b e : Nat} (he : e ≤ T.length) :
    (find4 T ⟨#[c]⟩ b e = -1 ∧ ∀ v, b ≤ v → v < e → ch T v ≠ c) ∨
    ∃ k : Nat, find4 T ⟨#[c]⟩ b e = (k : Int) ∧ b ≤ k ∧ k < e ∧ ch T k = c ∧ ∀ v, b ≤ v → v < k → ch T v ≠ c := by
  unfold find4
  rw [fromIndex_nat, fromIndex_nat, Nat.min_eq_left he]
  rcases occ_any T ⟨#[c]⟩ b e with ⟨h0, hn⟩ | ⟨k, r, h0, hlo, hk, hn⟩
  · rw [h0]
    exact .inl ⟨rfl, fun v h1 h2 h3 => hn v h1 (Nat.le_of_lt h2) ((at_one he).mpr ⟨h2, h3⟩)⟩
  · rw [h0]
    have hm := (at_one he).mp hk
    exact .inr ⟨k, rfl, hlo, hm.1, hm.2, fun v h1 h2 h3 => hn v h1 h2 ((at_one he).mpr ⟨by (first | lia | omega), h3⟩)⟩

theorem len_0 : (Str.ofString "SYSTEM").length = 6 := rfl
theorem len_1 : (Str.ofString "PUBLIC").length = 6 := rfl
theorem len_2 : (Str.ofString "<!DOCTYPE").length = 9 := rfl
theorem len_3 : (Str.ofString "[").length = 1 := rfl
theorem len_4 : (Str.ofString "]").length = 1 := rfl
theorem len_5 : (Str.ofString ">").length = 1 := rfl
theorem len_6 : (Str.ofString "<!--").length = 4 := rfl
theorem len_7 : (Str.ofString "-->").length = 3 := rfl
theorem len_8 : (Str.ofString "<?").length = 2 := rfl
theorem len_9 : (Str.ofString "?>").length = 2 := rfl
theorem len_10 : (Str.ofString "'").length = 1 := rfl
theorem len_11 : (Str.ofString "<").length = 1 := rfl
theorem len_12 : (Str.ofString "/>").length = 2 := rfl
theorem len_13 : (Str.ofString "</").length = 2 := rfl
theorem len_14 : (Str.ofString "&").length = 1 := rfl
theorem len_15 : (Str.ofString "<![CDATA[").length = 9 := rfl
theorem len_16 : (Str.ofString "<?xml").length = 5 := rfl
theorem len_17 : (Str.ofString "--").length = 2 := rfl
theorem len_18 : (Str.ofString "\"").length = 1 := rfl
theorem hit_le {T W : Str} {i n : Nat} (h : Hit T W i) (e : W.length = n) : i + n ≤ T.length := by rw [← e]; exact h.1
end Mine
end -- Tx
section -- Cm
open PySem PySem.W PySem.Calls PyProof.Rows PySem.Spec
set_option Elab.async false
set_option maxRecDepth 100000
set_option linter.unusedVariables false
namespace Mine
theorem room_0 {dp kk R : Nat} (h : dp + kk < R) : dp < R := Nat.lt_of_le_of_lt (Nat.le_add_right _ _) h
theorem room_d {dp kk k R : Nat} (h : dp + kk < R) (e : Nat.ble (k + 1) kk = true) : dp + 1 + k < R := by
  have := Nat.le_of_ble_eq_true e
  omega
theorem room_e {dp kk k R : Nat} (h : dp + kk < R) (e : Nat.ble k kk = true) : dp + k < R := by
  have := Nat.le_of_ble_eq_true e
  omega
theorem room_f {dp kk k R : Nat} (h : dp + kk < R) (e : Nat.ble (k + 2) kk = true) : dp + 1 + 1 + k < R := by
  have := Nat.le_of_ble_eq_true e
  omega
theorem room_u {un kk k R : Nat} (h : un + 8 * kk < R) (e : Nat.ble (3 + 8 * k) (8 * kk) = true) : un + 3 + 8 * k < R := by
  have := Nat.le_of_ble_eq_true e
  omega
theorem room_y {un kk k R : Nat} (h : un + 8 * kk < R) (e : Nat.ble (4 + k) (8 * kk) = true) : un + 1 + 3 + k < R := by
  have := Nat.le_of_ble_eq_true e
  omega
theorem room_x {un kk k R : Nat} (h : un + 8 * kk < R) (e : Nat.ble (3 + k) (8 * kk) = true) : un + 3 + k < R := by
  have := Nat.le_of_ble_eq_true e
  omega
theorem room_w {un kk k R : Nat} (h : un + 8 * kk < R) (e : Nat.ble (6 + k) (8 * kk) = true) : un + 3 + 3 + k < R := by
  have := Nat.le_of_ble_eq_true e
  omega
theorem room_v {un kk k R : Nat} (h : un + 8 * kk < R) (e : Nat.ble k kk = true) : un + 8 * k < R := by
  have := Nat.le_of_ble_eq_true e
  omega
theorem an0 {p0 r : Prop} (h : p0 ∧ r) : p0 := h.1
theorem an1 {p0 p1 r : Prop} (h : p0 ∧ p1 ∧ r) : p1 := h.2.1
theorem an2 {p0 p1 p2 r : Prop} (h : p0 ∧ p1 ∧ p2 ∧ r) : p2 := h.2.2.1
theorem an3 {p0 p1 p2 p3 r : Prop} (h : p0 ∧ p1 ∧ p2 ∧ p3 ∧ r) : p3 := h.2.2.2.1
theorem an4 {p0 p1 p2 p3 p4 r : Prop} (h : p0 ∧ p1 ∧ p2 ∧ p3 ∧ p4 ∧ r) : p4 := h.2.2.2.2.1
theorem an5 {p0 p1 p2 p3 p4 p5 r : Prop} (h : p0 ∧ p1 ∧ p2 ∧ p3 ∧ p4 ∧ p5 ∧ r) : p5 := h.2.2.2.2.2.1
theorem an6 {p0 p1 p2 p3 p4 p5 p6 r : Prop} (h : p0 ∧ p1 ∧ p2 ∧ p3 ∧ p4 ∧ p5 ∧ p6 ∧ r) : p6 := h.2.2.2.2.2.2.1
theorem an7 {p0 p1 p2 p3 p4 p5 p6 p7 r : Prop} (h : p0 ∧ p1 ∧ p2 ∧ p3 ∧ p4 ∧ p5 ∧ p6 ∧ p7 ∧ r) : p7 := h.2.2.2.2.2.2.2.1
theorem an8 {p0 p1 p2 p3 p4 p5 p6 p7 p8 r : Prop} (h : p0 ∧ p1 ∧ p2 ∧ p3 ∧ p4 ∧ p5 ∧ p6 ∧ p7 ∧ p8 ∧ r) : p8 := h.2.2.2.2.2.2.2.2.1
theorem an9 {p0 p1 p2 p3 p4 p5 p6 p7 p8 p9 r : Prop} (h : p0 ∧ p1 ∧ p2 ∧ p3 ∧ p4 ∧ p5 ∧ p6 ∧ p7 ∧ p8 ∧ p9 ∧ r) : p9 := h.2.2.2.2.2.2.2.2.2.1
theorem an10 {p0 p1 p2 p3 p4 p5 p6 p7 p8 p9 p10 r : Prop} (h : p0 ∧ p1 ∧ p2 ∧ p3 ∧ p4 ∧ p5 ∧ p6 ∧ p7 ∧ p8 ∧ p9 ∧ p10 ∧ r) : p10 := h.2.2.2.2.2.2.2.2.2.2.1
theorem an11 {p0 p1 p2 p3 p4 p5 p6 p7 p8 p9 p10 p11 r : Prop} (h : p0 ∧ p1 ∧ p2 ∧ p3 ∧ p4 ∧ p5 ∧ p6 ∧ p7 ∧ p8 ∧ p9 ∧ p10 ∧ p11 ∧ r) : p11 := h.2.2.2.2.2.2.2.2.2.2.2.1
theorem an12 {p0 p1 p2 p3 p4 p5 p6 p7 p8 p9 p10 p11 p12 r : Prop} (h : p0 ∧ p1 ∧ p2 ∧ p3 ∧ p4 ∧ p5 ∧ p6 ∧ p7 ∧ p8 ∧ p9 ∧ p10 ∧ p11 ∧ p12 ∧ r) : p12 := h.2.2.2.2.2.2.2.2.2.2.2.2.1
theorem an13 {p0 p1 p2 p3 p4 p5 p6 p7 p8 p9 p10 p11 p12 p13 r : Prop} (h : p0 ∧ p1 ∧ p2 ∧ p3 ∧ p4 ∧ p5 ∧ p6 ∧ p7 ∧ p8 ∧ p9 ∧ p10 ∧ p11 ∧ p12 ∧ p13 ∧ r) : p13 := h.2.2.2.2.2.2.2.2.2.2.2.2.2.1
theorem ar1 {p0 r : Prop} (h : p0 ∧ r) : r := h.2
theorem ar2 {p0 p1 r : Prop} (h : p0 ∧ p1 ∧ r) : r := h.2.2
theorem ar3 {p0 p1 p2 r : Prop} (h : p0 ∧ p1 ∧ p2 ∧ r) : r := h.2.2.2
theorem ar4 {p0 p1 p2 p3 r : Prop} (h : p0 ∧ p1 ∧ p2 ∧ p3 ∧ r) : r := h.2.2.2.2
theorem ar5 {p0 p1 p2 p3 p4 r : Prop} (h : p0 ∧ p1 ∧ p2 ∧ p3 ∧ p4 ∧ r) : r := h.2.2.2.2.2
theorem ar6 {p0 p1 p2 p3 p4 p5 r : Prop} (h : p0 ∧ p1 ∧ p2 ∧ p3 ∧ p4 ∧ p5 ∧ r) : r := h.2.2.2.2.2.2
theorem ar7 {p0 p1 p2 p3 p4 p5 p6 r : Prop} (h : p0 ∧ p1 ∧ p2 ∧ p3 ∧ p4 ∧ p5 ∧ p6 ∧ r) : r := h.2.2.2.2.2.2.2
theorem ar8 {p0 p1 p2 p3 p4 p5 p6 p7 r : Prop} (h : p0 ∧ p1 ∧ p2 ∧ p3 ∧ p4 ∧ p5 ∧ p6 ∧ p7 ∧ r) : r := h.2.2.2.2.2.2.2.2
theorem ar9 {p0 p1 p2 p3 p4 p5 p6 p7 p8 r : Prop} (h : p0 ∧ p1 ∧ p2 ∧ p3 ∧ p4 ∧ p5 ∧ p6 ∧ p7 ∧ p8 ∧ r) : r := h.2.2.2.2.2.2.2.2.2
theorem ar10 {p0 p1 p2 p3 p4 p5 p6 p7 p8 p9 r : Prop} (h : p0 ∧ p1 ∧ p2 ∧ p3 ∧ p4 ∧ p5 ∧ p6 ∧ p7 ∧ p8 ∧ p9 ∧ r) : r := h.2.2.2.2.2.2.2.2.2.2
theorem ar11 {p0 p1 p2 p3 p4 p5 p6 p7 p8 p9 p10 r : Prop} (h : p0 ∧ p1 ∧ p2 ∧ p3 ∧ p4 ∧ p5 ∧ p6 ∧ p7 ∧ p8 ∧ p9 ∧ p10 ∧ r) : r := h.2.2.2.2.2.2.2.2.2.2.2
theorem ar12 {p0 p1 p2 p3 p4 p5 p6 p7 p8 p9 p10 p11 r : Prop} (h : p0 ∧ p1 ∧ p2 ∧ p3 ∧ p4 ∧ p5 ∧ p6 ∧ p7 ∧ p8 ∧ p9 ∧ p10 ∧ p11 ∧ r) : r := h.2.2.2.2.2.2.2.2.2.2.2.2
theorem ar13 {p0 p1 p2 p3 p4 p5 p6 p7 p8 p9 p10 p11 p12 r : Prop} (h : p0 ∧ p1 ∧ p2 ∧ p3 ∧ p4 ∧ p5 ∧ p6 ∧ p7 ∧ p8 ∧ p9 ∧ p10 ∧ p11 ∧ p12 ∧ r) : r := h.2.2.2.2.2.2.2.2.2.2.2.2.2
/-- the text's own functions: a call of one is a Stop -/
noncomputable def isOwn (f : Nat) : Bool := Nat.ble f 1024 && !([129, 418, 474, 623, 672, 820, 841, 961] : List Nat).contains f
section
variable {w : World} {mean : ExcName → Option Value} {mg mb : Str → Option Value} {kk : Nat} {f : Addr} {led : List (Addr × Obj)} {vs : List Value}
  {Post : (base h₀ : Heap) → (fr : List Env) → (L : Addr) → (m : Str → Option Value) → (s : Shared) → (Q E : Value → Shared → Prop) → Prop}
  {dp un : Nat} {gd : Option (List Code)} {cn : Str} {cs : Scope} {a : Addr} {ccd : Value} {cl : List (Str × Addr)} {outer : List Env} {A₀ : Around} {base h₀ : Heap} {L : Addr} {m : Str → Option Value} {s : Shared} {Q E : Value → Shared → Prop}
theorem CallsTo.use (h : CallsTo w mean mg mb kk f led vs Post) (B : Below A₀ base outer h₀) (F : Fr h₀ L s.heap m) (X : (Mine.hd.heap_39 w.params).In h₀) (N : News h₀ L s.heap led) (T : Top Mine.hd.view_39 ML mean mg mb h₀) (hk : cs.kind = .function)
    (hd : dp + kk < recursionLimit) (hu : un + 8 * kk < cLine) (hp : Post base h₀ (envX cn cs L a ccd cl :: outer) L m s Q E) :
    wpAny (model MP w) (ktrTop dp un gd cn cs L a ccd cl outer) (call (.ref f) vs) Q E s := h _ _ _ _ _ _ _ _ _ _ _ _ _ _ _ _ _ B F X N T hk hd hu hp
end
theorem PM.use {w : World} {mean : ExcName → Option Value} {mg mb : Str → Option Value} {kk : Nat} {f : Addr} {vs : List Value} {PostP : (Value → Prop) → (Int → Prop) → Prop} (h : PM w mean mg mb kk f vs PostP) (led : List (Addr × Obj)) :
    CallsTo w mean mg mb kk f led vs fun base h₀ fr L m s Q E => PostP (fun v => RetTo h₀ L m s Q v led) (fun p => ExcTo w.params base h₀ fr L m s E p led) := h led
theorem PM.imp {w : World} {mean : ExcName → Option Value} {mg mb : Str → Option Value} {kk : Nat} {f : Addr} {vs : List Value} {P P' : (Value → Prop) → (Int → Prop) → Prop} (h : PM w mean mg mb kk f vs P) (hp : ∀ R X, P' R X → P R X) : PM w mean mg mb kk f vs P' :=
  fun led dp un gd cn cs a ccd cl outer A₀ base h₀ L m s Q E B F X N T hk hd hu post => h led dp un gd cn cs a ccd cl outer A₀ base h₀ L m s Q E B F X N T hk hd hu (hp _ _ post)

/-- a cursor's own dict: the text T, the place k -/
noncomputable abbrev curD (P : Params) (t1 : CTok) (T : Str) (tt : CTok) (t2 : CTok) (k : Int) (tk : CTok) : Obj := dictOf [⟨PyData.keyHash P (Str.ofString "text"), .str (Str.ofString "text") t1, .str T tt⟩, ⟨PyData.keyHash P (Str.ofString "at"), .str (Str.ofString "at") t2, .int k tk⟩] 2
/-- what comes back: a value, or a tuple made for it -/
inductive RV where
  | val (v : Value)
  | tup (vs : List Value)
noncomputable def RetV (h₀ : Heap) (L : Addr) (m : Str → Option Value) (s : Shared) (Q : Value → Shared → Prop) (led : List (Addr × Obj)) : RV → Prop
  | .val v => RetTo h₀ L m s Q v led
  | .tup vs => ∀ a : Addr, (∀ p ∈ led, @LT.lt Nat _ p.1 a) → RetTo h₀ L m s Q (.ref a) ((a, tupO vs) :: led)
noncomputable abbrev CPost := (RV → Nat → Prop) → (Nat → Nat → Prop) → Prop
/-- a method of a cursor that stands at k in T: Post (it comes back with r, the cursor at k') (a fault at p, the cursor at k') -/
noncomputable def CM (w : World) (mean : ExcName → Option Value) (mg mb : Str → Option Value) (kk : Nat) (f : Addr) (T : Str) (k : Nat) (args : List Value) (Post : CPost) : Prop :=
  ∀ (c d : Addr) (t1 tt t2 tk : CTok) (led : List (Addr × Obj)) (g : Obj → List (Addr × Obj)), (c, instObj 418 d) ∈ led → UpdF d (curD w.params t1 T tt t2 k tk) led g →
    CallsTo w mean mg mb kk f led (.ref c :: args) fun base h₀ fr L m s Q E =>
      Post (fun v k' => ∀ tk', RetV h₀ L m s Q (g (curD w.params t1 T tt t2 k' tk')) v) (fun p k' => ∀ tk', ExcTo w.params base h₀ fr L m s E p (g (curD w.params t1 T tt t2 k' tk')))
/-- the same upon a ledger that begins with the cursor -/
noncomputable def CM0 (w : World) (mean : ExcName → Option Value) (mg mb : Str → Option Value) (kk : Nat) (f : Addr) (T : Str) (k : Nat) (args : List Value) (Post : CPost) : Prop :=
  ∀ (c d : Addr) (t1 tt t2 tk : CTok) (rest : List (Addr × Obj)), OwnOff rest [d] → @Ne Nat c d →
    CallsTo w mean mg mb kk f ((c, instObj 418 d) :: (d, curD w.params t1 T tt t2 k tk) :: rest) (.ref c :: args) fun base h₀ fr L m s Q E =>
      Post (fun v k' => ∀ tk', RetV h₀ L m s Q ((c, instObj 418 d) :: (d, curD w.params t1 T tt t2 k' tk') :: rest) v)
        (fun p k' => ∀ tk', ExcTo w.params base h₀ fr L m s E p ((c, instObj 418 d) :: (d, curD w.params t1 T tt t2 k' tk') :: rest))
noncomputable def PMono (Post : CPost) : Prop :=
  ∀ R R' X X', (∀ v k, R v k → R' v k) → (∀ p k, X p k → X' p k) → Post R X → Post R' X'
section
variable {w : World} {mean : ExcName → Option Value} {mg mb : Str → Option Value} {kk : Nat} {f : Addr} {T : Str} {k : Nat} {args : List Value} {Post Post' : CPost}
theorem CM.of (h : CM0 w mean mg mb kk f T k args Post) (hm : PMono Post) : CM w mean mg mb kk f T k args Post := by
  intro c d t1 tt t2 tk led g hc hU dp un gd cn cs a ccd cl outer A₀ base h₀ L m s Q E B F X N Tp hk hd hu hp
  obtain ⟨pre, post, rfl, e, h1, h2⟩ := hU.split
  have hcd : @Ne Nat c d := by
    intro q
    have q1 := (N _ hc).1
    have q2 := (N (d, curD w.params t1 T tt t2 k tk) (by simp)).1
    dsimp only at q1 q2
    rw [show (c : Addr) = d from q, q2] at q1
    cases q1
  have hne : ∀ p ∈ pre ++ post, p.1 ≠ d := fun p hp => (List.mem_append.mp hp).elim (h1 p) (h2 p)
  have hsub : ∀ (k' : Nat) tk', ∀ p ∈ g (curD w.params t1 T tt t2 k' tk'), p ∈ (c, instObj 418 d) :: (d, curD w.params t1 T tt t2 k' tk') :: (pre ++ post) := by
    intro k' tk' p hp
    rw [e] at hp
    rcases List.mem_append.mp hp with q | q
    · exact .tail _ (.tail _ (List.mem_append_left _ q))
    · rcases List.mem_cons.mp q with rfl | q
      · exact .tail _ (.head _)
      · exact .tail _ (.tail _ (List.mem_append_right _ q))
  refine h c d t1 tt t2 tk (pre ++ post) (fun p hp b hb => by rw [List.mem_singleton.mp hb]; exact hne p hp) hcd dp un gd cn cs a ccd cl outer A₀ base h₀ L m s Q E B F X (fun p hp => ?_) Tp hk hd hu (hm _ _ _ _ (fun v k' r tk' => ?_) (fun p k' r tk' ee G h' tk'' F' U' R' => ?_) hp)
  · exact N p (sub_cons hc (sub_cons (List.mem_append_right _ (.head _)) mem_mid) p hp)
  · have r := r tk'
    cases v with
    | val v => exact fun h' tk'' F' N' => r h' tk'' F' fun p hp => N' p (hsub k' tk' p hp)
    | tup vs =>
      exact fun a ha h' tk'' F' N' => r a (fun p hp => ha p (hsub k' tk' p hp)) h' tk'' F' fun p hp => N' p (sub_cons (.head _) (fun p hp => .tail _ (hsub k' tk' p hp)) p hp)
  · exact r tk' ee G h' tk'' F' U' (R'.less (hsub k' tk'))
theorem CM.imp (h : CM w mean mg mb kk f T k args Post) (hp : ∀ R X, Post' R X → Post R X) : CM w mean mg mb kk f T k args Post' :=
  fun c d t1 tt t2 tk led g hc hU dp un gd cn cs a ccd cl outer A₀ base h₀ L m s Q E B F X N Tp hk hd hu post => h c d t1 tt t2 tk led g hc hU dp un gd cn cs a ccd cl outer A₀ base h₀ L m s Q E B F X N Tp hk hd hu (hp _ _ post)
variable {c d : Addr} {t1 tt t2 tk : CTok} {led : List (Addr × Obj)} {g : Obj → List (Addr × Obj)}
  {dp un : Nat} {gd : Option (List Code)} {cn : Str} {cs : Scope} {a : Addr} {ccd : Value} {cl : List (Str × Addr)} {outer : List Env} {A₀ : Around} {base h₀ : Heap} {L : Addr} {m : Str → Option Value} {s : Shared} {Q E : Value → Shared → Prop}
theorem CM.use (h : CM w mean mg mb kk f T k args Post) (B : Below A₀ base outer h₀) (F : Fr h₀ L s.heap m) (X : (Mine.hd.heap_39 w.params).In h₀) (N : News h₀ L s.heap led) (Tp : Top Mine.hd.view_39 ML mean mg mb h₀) (hk : cs.kind = .function)
    (hd : dp + kk < recursionLimit) (hu : un + 8 * kk < cLine) (hc : (c, instObj 418 d) ∈ led) (hU : UpdF d (curD w.params t1 T tt t2 k tk) led g)
    (hp : Post (fun v k' => ∀ tk', RetV h₀ L m s Q (g (curD w.params t1 T tt t2 k' tk')) v) (fun p k' => ∀ tk', ExcTo w.params base h₀ (envX cn cs L a ccd cl :: outer) L m s E p (g (curD w.params t1 T tt t2 k' tk')))) :
    wpAny (model MP w) (ktrTop dp un gd cn cs L a ccd cl outer) (call (.ref f) (.ref c :: args)) Q E s := h _ _ _ _ _ _ _ _ hc hU _ _ _ _ _ _ _ _ _ _ _ _ _ _ _ _ _ B F X N Tp hk hd hu hp
end
theorem iteYes {c : Prop} [Decidable c] {A B : Prop} (h : c) (a : A) : if c then A else B := by rw [if_pos h]; exact a
theorem iteNo {c : Prop} [Decidable c] {A B : Prop} (h : ¬ c) (b : B) : if c then A else B := by rw [if_neg h]; exact b
theorem retB {h₀ h' : Heap} {L : Addr} {m : Str → Option Value} {s : Shared} {Q : Value → Shared → Prop} {v v' : Value} {led : List (Addr × Obj)} {tk' : Nat} (hret : RetTo h₀ L m s Q v led) (e : v' = v) (F : Fr h₀ L h' m) (N : News h₀ L h' led) : Q v' { s with heap := h', toks := tk' } := by
  rw [e]; exact hret _ _ F N
theorem raise150 {w : World} {A : Around} {E : Value → Shared → Prop} {s : Shared} {env : Env} {exc : Expr} {pos : Pos} {Q : Flow → Shared → Prop} (hh : A.handled = none)
    (h : wpAny (model MP w) A (eval exc env) (fun v s₁ => ∃ e t oe, v = .ref e ∧ (Mine.hd.heap_39 w.params).In s₁.heap ∧ s₁.heap.get? e = some oe ∧ oe.cls = .ref 150 ∧ oe.data = .fields #[.ref t, .none, .none, .none, .bool false, .none] ∧ E (.ref e) s₁) E s) :
    wpAny (model MP w) A (exec (.Raise (some exc) none pos) env) Q E s := by
  refine' raise_exc (C := 150) (K := Mine.hd.heap_39 w.params) ?b ?C hh h
  case C => k_is
  case b => decide
theorem excB {P : Params} {base h₀ G h' : Heap} {fr : List Env} {L : Addr} {m : Str → Option Value} {s : Shared} {E : Value → Shared → Prop} {p p' : Int} {led : List (Addr × Obj)} {e : Addr} {tk' : Nat} (hret : ExcTo P base h₀ fr L m s E p led) (R : RaisedF P 150 base G fr e p' led h') (q : p' = p) (U : G.UpToSlots h') (F : Fr h₀ L G m) : E (.ref e) { s with heap := h', toks := tk' } := by
  subst q; exact hret _ _ _ _ F U R
theorem Stop.call {M : Model} {A : Around} {f : Addr} {vs : List Value} {kw : List (Str × Value)} {Q E : Value → Shared → Prop} {s : Shared} (_c : isOwn f = true) (h : Stop (wpAny M A (call (.ref f) vs kw) Q E s)) : wpAny M A (call (.ref f) vs kw) Q E s := h
section
variable {prog : Program} {w : World} {A : Around} {E : Value → Shared → Prop} {Q : Flow → Shared → Prop} {s : Shared} {env : Env} {h₀ : Heap} {L : Addr}
noncomputable def WkPost {σ : Type} (h₀ : Heap) (L : Addr) (s : Shared) (Led : σ → List (Addr × Obj)) (m₀ : Str → Option Value) (P : σ → Prop) (μ : σ → Nat) (Q : Flow → Shared → Prop) (c : σ) (f : Flow) (s₂ : Shared) : Prop :=
  match f with
  | .ret v => Q (.ret v) s₂
  | .brk => Q .next s₂
  | _ => ∃ (c' : σ) (h' : Heap) (tk : Nat), s₂ = { s with heap := h', toks := tk } ∧ Fr h₀ L h' m₀ ∧ News h₀ L h' (Led c') ∧ P c' ∧ μ c' < μ c
theorem wk_end {σ : Type} {Led : σ → List (Addr × Obj)} {m₀ : Str → Option Value} {P : σ → Prop} {μ : σ → Nat} {c : σ} {h' : Heap} {tk : Nat} (c' : σ) (F : Fr h₀ L h' m₀) (N : News h₀ L h' (Led c')) (hp : P c') (hm : μ c' < μ c) :
    ∃ (c' : σ) (h'' : Heap) (tk' : Nat), { s with heap := h', toks := tk } = { s with heap := h'', toks := tk' } ∧ Fr h₀ L h'' m₀ ∧ News h₀ L h'' (Led c') ∧ P c' ∧ μ c' < μ c := ⟨c', h', tk, rfl, F, N, hp, hm⟩
theorem whl_keep {σ : Type} {test : Expr} {body : List Stmt} {pos : Pos} {m₀ : Str → Option Value} (Led : σ → List (Addr × Obj)) (P : σ → Prop) (μ : σ → Nat) (c₀ : σ)
    (F : Fr h₀ L s.heap m₀) (N : News h₀ L s.heap (Led c₀)) (hp : P c₀)
    (turn : ∀ (c : σ) h tk, P c → Fr h₀ L h m₀ → News h₀ L h (Led c) →
      wpAny (model prog w) A (isTrue test env (eval test env)) (fun b s₂ =>
        if b = true then wpAny (model prog w) A (execs body env) (WkPost h₀ L s Led m₀ P μ Q c) E s₂ else Q .next s₂) E { s with heap := h, toks := tk })
    (hE : PassesOwn (model prog w) A env E) :
    wpAny (model prog w) A (exec (.While test body [] pos) env) Q E s := by
  have e : ∀ u : Str → Option Value, kstB (fun z => if ([] : List Str).contains z then u z else m₀ z) [] = m₀ := fun u => by funext z; rfl
  refine ksw_while (m₀ := m₀) Led (fun _ => []) (fun _ => True) [] P μ c₀ F N trivial (fun p hp => nomatch hp) hp (fun c u h tk _ hP F' N' => ?_) hE
  rw [e u] at F'
  refine wpAny_mono (turn c h tk hP F' N') (fun b s₂ p => ?_) fun _ _ x => x
  cases b with
  | false => simpa using p
  | true =>
    simp only [if_true] at p ⊢
    refine wpAny_mono p (fun f s₃ q => ?_) fun _ _ x => x
    cases f with
    | ret v => exact q
    | brk => exact q
    | next =>
      obtain ⟨c', h', tk', rfl, F', N', hp9, hm9⟩ := q
      exact ⟨c', h', tk', m₀, _, rfl, F', N', fun p hp => hp, trivial, (fun p hp => nomatch hp), (fun z _ _ => rfl), hp9, hm9⟩
    | cont =>
      obtain ⟨c', h', tk', rfl, F', N', hp9, hm9⟩ := q
      exact ⟨c', h', tk', m₀, _, rfl, F', N', fun p hp => hp, trivial, (fun p hp => nomatch hp), (fun z _ _ => rfl), hp9, hm9⟩
end
theorem item_at {prog : Program} {w : World} {A : Around} {E : Value → Shared → Prop} {s : Shared} {value slice : Expr} {x : Str} {t : Tok} {Q : Value → Shared → Prop} {k : Nat} {u : Tok} (hsz : x.length ≤ 1000) (h2 : k < x.length)
    (h : Q (.str ⟨#[ch x k]⟩ s.toks) { s with toks := s.toks + 1 })
    (hs : subscripted slice false (.str x t) (.int k u) = operate [.str x t, .int k u] (getItem (.str x t) (.int k u)))
    (ht : ∀ r, letTemporaryGo value (.str x t) r = pure ()) :
    wpAny (model prog w) A (subscriptTail value slice (.str x t) (.int k u)) Q E s :=
  item_str (fitsSsize_of (N := 9223372036854775808) (by omega) (by omega) (Int.le_refl _)) (by omega) (by omega) (fun _ => by rw [item_nat h2]; exact h) hs ht
theorem ca0 : (0 : Int) = ((0 : Nat) : Int) := rfl
theorem ca1 (k : Nat) : (k : Int) + 1 = ((k + 1 : Nat) : Int) := rfl
theorem caN (k n : Nat) : (k : Int) + (n : Int) = ((k + n : Nat) : Int) := rfl
section
variable {w : World} {mean : ExcName → Option Value} {mg mb : Str → Option Value} {kk : Nat} {f : Addr} {T : Str} {k : Nat} {kI : Int} {args : List Value} {Post : CPost} {c d : Addr} {t1 tt t2 tk : CTok} {led : List (Addr × Obj)} {g : Obj → List (Addr × Obj)}
  {dp un : Nat} {gd : Option (List Code)} {cn : Str} {cs : Scope} {a : Addr} {ccd : Value} {cl : List (Str × Addr)} {outer : List Env} {A₀ : Around} {base h₀ : Heap} {L : Addr} {m : Str → Option Value} {s : Shared} {Q E : Value → Shared → Prop}
theorem CM.useI (h : CM w mean mg mb kk f T k args Post) (B : Below A₀ base outer h₀) (F : Fr h₀ L s.heap m) (X : (Mine.hd.heap_39 w.params).In h₀) (N : News h₀ L s.heap led) (Tp : Top Mine.hd.view_39 ML mean mg mb h₀) (hk : cs.kind = .function)
    (hd : dp + kk < recursionLimit) (hu : un + 8 * kk < cLine) (hc : (c, instObj 418 d) ∈ led) (hU : UpdF d (curD w.params t1 T tt t2 kI tk) led g) (he : kI = (k : Int))
    (hp : Post (fun v k' => ∀ tk', RetV h₀ L m s Q (g (curD w.params t1 T tt t2 k' tk')) v) (fun p k' => ∀ tk', ExcTo w.params base h₀ (envX cn cs L a ccd cl :: outer) L m s E p (g (curD w.params t1 T tt t2 k' tk')))) :
    wpAny (model MP w) (ktrTop dp un gd cn cs L a ccd cl outer) (call (.ref f) (.ref c :: args)) Q E s := by
  subst he; exact CM.use h B F X N Tp hk hd hu hc hU hp
end
theorem iteD {p : Prop} [Decidable p] {A B : Prop} (h1 : p → A) (h2 : ¬ p → B) : if (decide p = true) then A else B := by
  by_cases h : p
  · rw [if_pos (decide_eq_true h)]; exact h1 h
  · rw [if_neg (by rw [decide_eq_true_eq]; exact h)]; exact h2 h
end Mine
end -- Cm
section -- rules
open PySem PySem.W PySem.Calls PyProof.Rows PySem.Spec
set_option Elab.async false
set_option maxRecDepth 100000
set_option linter.unusedVariables false
open Mine
set_option hygiene false in
local macro_rules | `(tactic| walk_at "zz lt") => `(tactic| (first | assumption | exact an0 (by assumption) | exact an1 (by assumption) | exact ar1 (by assumption) | exact an2 (by assumption) | exact ar2 (by assumption) | exact an3 (by assumption) | exact ar3 (by assumption) | exact an4 (by assumption) | exact ar4 (by assumption) | exact an5 (by assumption) | exact ar5 (by assumption) | exact an6 (by assumption) | exact ar6 (by assumption) | exact an7 (by assumption) | exact ar7 (by assumption) | exact an8 (by assumption) | exact ar8 (by assumption) | exact an9 (by assumption) | exact ar9 (by assumption) | exact an10 (by assumption) | exact ar10 (by assumption) | exact an11 (by assumption) | exact ar11 (by assumption) | exact an12 (by assumption) | exact ar12 (by assumption) | exact an13 (by assumption) | exact ar13 (by assumption)))
set_option hygiene false in
local macro_rules | `(tactic| walk_at "zz ne") => `(tactic| (first | walk_at "zz lt" | exact And.left (by walk_at "zz lt") | exact an1 (by walk_at "zz lt") | exact ar2 (by walk_at "zz lt")))
local macro_rules | `(tactic| k_ne) => `(tactic| (refine neN ?_; (try dsimp only); first | exact Nat.ne_of_lt (by walk_at "zz lt") | exact Nat.ne_of_gt (by walk_at "zz lt") | walk_at "zz ne" | (refine Ne.symm ?_; walk_at "zz ne") | (refine Nat.ne_of_gt (Nat.lt_trans ?_ (by assumption)); walk_at "zz lt") | (refine Nat.ne_of_lt (Nat.lt_trans ?_ (by assumption)); walk_at "zz lt") | omega))
set_option hygiene false in
local macro_rules | `(tactic| walk_at "zz om") => `(tactic| (first | walk_at "zz lt" | exact Nat.lt_of_not_le (by assumption) | exact Nat.le_of_not_lt (by assumption) | exact Nat.le_of_lt (Nat.lt_of_not_le (by assumption)) | exact Nat.le_trans (by assumption : _ ≤ 1000) (by decide) | omega))
set_option hygiene false in
local macro_rules | `(tactic| walk_at "zz side") => `(tactic| (first | walk_at "zz om" | exact rfl | exact Nat.le_of_ble_eq_true rfl | exact sub_le _ _ _ (by assumption) | exact hit_le (by assumption) rfl | exact (by assumption : Ahead _ _ _).2.2.2 (by walk_at "zz om") | exact Sps.le (by assumption) | exact bad_sub (by assumption) (by walk_at "zz om") ⟨by walk_at "zz om", by walk_at "zz om"⟩ | omega | decide +kernel | (dsimp only at *; omega)))
local macro_rules | `(tactic| k_room) => `(tactic| ktr_room)
local macro_rules | `(tactic| walk_at "exec Raise some none") => `(tactic| (k_here; refine Stop.at ?_))
local macro_rules | `(tactic| walk_at "call ref") => `(tactic| (k_here; k_dflt (refine Stop.call (by exact rfl) ?_)))
local macro_rules | `(tactic| walk_at "Exists") => `(tactic| (k_here; refine Stop.at ?_))
local macro_rules | `(tactic| walk_at "leaving ref") => `(tactic| (k_here; refine Stop.at ?_))
local macro_rules | `(tactic| walk_at "ite") => `(tactic| (k_here; first | (refine iteYes ?h ?_; (case h => first | with_reducible assumption | walk_at "zz om" | (rw [decide_eq_true_eq]; first | assumption | walk_at "zz om") | decide +kernel)) | (refine iteNo ?h ?_; (case h => first | with_reducible assumption | walk_at "zz om" | (rw [decide_eq_true_eq]; first | assumption | walk_at "zz om") | decide +kernel))))
local macro_rules | `(tactic| walk_at "exec While BoolOp cons nil") => `(tactic| (k_here; refine Stop.at ?_))
local macro_rules | `(tactic| walk_at "exec While Compare cons nil") => `(tactic| (k_here; refine Stop.at ?_))
local macro_rules | `(tactic| walk_at "exec While Constant cons nil") => `(tactic| (k_here; refine Stop.at ?_))
local macro_rules | `(tactic| walk_at "eval Call") => `(tactic| (k_here; k_dflt (refine Call_ ?_)))
local macro_rules | `(tactic| walk_at "subscriptTail Attribute Attribute str int") => `(tactic| (k_here; refine Stop.at ?_))
local macro_rules | `(tactic| walk_at "subscriptTail Attribute Name str int") => `(tactic| (k_here; refine Stop.at ?_))
local macro_rules | `(tactic| walk_at "subscriptTail Name Name str int") => `(tactic| (k_here; refine Stop.at ?_))
local macro_rules | `(tactic| walk_at "subscriptTail Name Attribute str int") => `(tactic| (k_here; refine Stop.at ?_))
local macro_rules | `(tactic| walk_at "Cont") => `(tactic| with_reducible first | refine Cont.next ?_ | refine Cont.ret ?_ | refine Cont.brk ?_ | refine Cont.cont ?_)
local macro_rules | `(tactic| walk_at "execs cons") => `(tactic| (k_here; first | k_gentoks | ((try k_made); with_reducible first | (refine execs_1 ?_; (try k_fold)) | (refine execs_F ?_; intro qk))))
section -- P1
namespace Mine
/-- no sign of a document has another code -/
noncomputable def inR (c : Int) : Bool := decide (32 ≤ c ∧ c ≤ 55295) || decide (57344 ≤ c ∧ c ≤ 65533) || decide (65536 ≤ c ∧ c ≤ 1114111)
theorem endW1 {h₀ : Heap} {L : Addr} {s₁ : Shared} {i : Addr} {o : Obj} {rest : (Str → Option Value) → List (Addr × Obj) → Prop} {h' : Heap} {tk : Nat} {m' : Str → Option Value} {all led : List (Addr × Obj)} (F : Fr h₀ L h' m') (N : News h₀ L h' all)
    (hI : (i, o) ∈ all) (sub : ∀ p ∈ led, p ∈ all) (off : ∀ p ∈ led, @LT.lt Nat _ p.1 i) (r : rest m' led) : UnrEndW h₀ L s₁ [(i, o)] rest { s₁ with heap := h', toks := tk } :=
  ⟨h', tk, m', led, rfl, F, fun p hp => by
    rcases List.mem_cons.mp hp with rfl | hp
    · exact N _ hI
    · exact N p (sub p hp), fun p hp q hq e => by
    rw [List.mem_singleton.mp hq] at e
    have := off p hp
    exact Nat.lt_irrefl i (by rw [e] at this; exact this), r⟩
theorem newsTl {h₀ h : Heap} {L : Addr} {a : Addr × Obj} {l : List (Addr × Obj)} (N : News h₀ L h (a :: l)) : News h₀ L h l := fun p hp => N p (.tail _ hp)
section
local macro_rules | `(tactic| walk_at "exec For Tuple Name cons nil") => `(tactic| (k_here; refine Stop.at ?_))
local macro_rules | `(tactic| walk_at "UnrEndW") => `(tactic| (k_here; refine Stop.at ?_))
set_option maxHeartbeats 8000000 in
theorem in_ranges_spec (w mean mg mb) (c : Int) (tc : CTok) : PM w mean mg mb 1 49 [.int c tc, .ref 25] fun R _ => R (.bool (inR c)) := by
  unfold PM CallsTo
  intros
  rename_i hret
  refine wpAny_call ?_
  k_dflt (refine' code_def ?k1 ?k2 ?k3 ?k4 ?k5 ?kA ?kF ?kK ?k6 ?k7 ?k8 ?k9 ?kB ?_ ?c2 ?c3 ?c4 ?c5; (case kA | kF => exact rfl); (case kK => first | exact rfl | assumption); (case k1 | k2 | k3 | k4 | k5 => k_asm); (case k6 | k7 => k_is); (case k8 => first | exact room_0 (by assumption) | ktr_room); (case k9 => first | exact BindsTo.of_eq rfl | exact binds_K (by k_in) rfl (by k_is) rfl rfl rfl); (case c5 => decide); (case kB => exact locs rfl); (case c2 | c3 | c4 => exact rfl); k_whole; intro g' L' h' FG' F' N' B' X' T'; (try dsimp only); (try k_fold))
  (k_steps; (try repeat' ((with_reducible refine Stop.by ?_); (first | ((with_reducible show UnrEndW _ _ _ _ _ _); (refine endW1 (by assumption) (by assumption) ?hI ?sub (by assumption) (And.intro ?z ?_)); (case z => exact trivial); (case hI => k_mem); (case sub => first | exact fun p hp => .tail _ hp)) | ((with_reducible show wpAny _ _ (exec (Stmt.For _ _ _ _ _) _) _ _ _); (rename Fr _ _ _ _ => lF'); (with_unfolding_all refine' For_turns lF' ?_; k_whole))); k_steps)))
  all_goals (dsimp only at hret)
  all_goals first
    | ((have e : inR c = true := by (simp only [inR, Bool.or_eq_true, decide_eq_true_eq]; (first | lia | omega))); rw [← e]; exact hret _ _ (by assumption) (newsTl (by assumption)))
    | ((have e : inR c = false := by (simp only [inR, Bool.or_eq_false_iff, decide_eq_false_iff_not]; (first | lia | omega))); rw [← e]; exact hret _ _ (by assumption) (by first | assumption | exact newsTl (by assumption)))
end

noncomputable def isSp (c : Nat) : Bool := c == 32 || c == 9 || c == 10 || c == 13
noncomputable def isCh (c : Nat) : Bool := if c < 32 then isSp c else inR c
noncomputable def isSm (c : Nat) : Bool := decide (97 ≤ c ∧ c ≤ 122)
noncomputable def isNs (c : Nat) : Bool := isSm c || decide (65 ≤ c ∧ c ≤ 90) || c == 95 || c == 58
noncomputable def isNc (c : Nat) : Bool := isNs c || decide (48 ≤ c ∧ c ≤ 57) || c == 45 || c == 46
theorem in_spaces {S : Str} (h : S.length = 1) : (!(Builtin.Str.occurrences (Str.ofString " \t\n\x0d") S 0 (Str.ofString " \t\n\x0d").length 1).isEmpty) = isSp (ch S 0) := by
  rw [one_of h, StrLaws.found_one]
  have e : (Str.ofString " \t\n\x0d").cps.toList = [32, 9, 10, 13] := by decide +kernel
  rw [e, Bool.eq_iff_iff, decide_eq_true_eq]
  show _ ↔ isSp (ch S 0) = true
  simp [isSp, or_assoc]
theorem ne_empty {S : Str} (h : S.length = 1) : (S != Str.ofString "") = true := by
  rw [one_of h]
  have e : Str.ofString "" = ⟨#[]⟩ := by decide +kernel
  rw [e]
  simp
theorem lt_iff {S : Str} (h : S.length = 1) (w : Str) (c : Nat) (hw : w.cps.toList = [c]) : (S.cps.toList < w.cps.toList) ↔ ch S 0 < c := by
  have e : S.cps.toList = [ch S 0] := congrArg (fun x => x.cps.toList) (one_of h)
  rw [e, hw, ← decide_eq_true_iff (p := ([_] : List Nat) < [_]), StrLaws.lt_cons_cons, StrLaws.lt_nil_nil, Bool.and_false, Bool.or_false, decide_eq_true_eq]
theorem gt_iff {S : Str} (h : S.length = 1) (w : Str) (c : Nat) (hw : w.cps.toList = [c]) : (w.cps.toList < S.cps.toList) ↔ c < ch S 0 := by
  have e : S.cps.toList = [ch S 0] := congrArg (fun x => x.cps.toList) (one_of h)
  rw [e, hw, ← decide_eq_true_iff (p := ([_] : List Nat) < [_]), StrLaws.lt_cons_cons, StrLaws.lt_nil_nil, Bool.and_false, Bool.or_false, decide_eq_true_eq]
theorem eq_one {S : Str} (h : S.length = 1) (w : Str) (c : Nat) (hw : w = ⟨#[c]⟩) : (S == w) = (ch S 0 == c) := by
  rw [one_of h, hw, Bool.eq_iff_iff, beq_iff_eq, beq_iff_eq]
  show _ ↔ ch S 0 = c
  simp
set_option maxHeartbeats 8000000 in
theorem is_space_spec (w mean mg mb) (S : Str) (ts : CTok) (hS : S.length = 1) : PM w mean mg mb 1 56 [.str S ts] fun R _ => R (.bool (isSp (ch S 0))) := by
  have hch : ch S 0 = S.cps.getD 0 0 := rfl
  unfold PM CallsTo
  intros
  rename_i hret
  refine wpAny_call ?_
  k_dflt (refine' code_def ?k1 ?k2 ?k3 ?k4 ?k5 ?kA ?kF ?kK ?k6 ?k7 ?k8 ?k9 ?kB ?_ ?c2 ?c3 ?c4 ?c5; (case kA | kF => exact rfl); (case kK => first | exact rfl | assumption); (case k1 | k2 | k3 | k4 | k5 => k_asm); (case k6 | k7 => k_is); (case k8 => first | exact room_0 (by assumption) | ktr_room); (case k9 => first | exact BindsTo.of_eq rfl | exact binds_K (by k_in) rfl (by k_is) rfl rfl rfl); (case c5 => decide); (case kB => exact locs rfl); (case c2 | c3 | c4 => exact rfl); k_whole; intro g' L' h' FG' F' N' B' X' T'; (try dsimp only); (try k_fold))
  k_steps
  all_goals (dsimp only at hret)
  · refine retB hret (congrArg Value.bool (in_spaces hS)) (by assumption) (by assumption)
  · refine retB hret (congrArg Value.bool ?_) (by assumption) (by assumption)
    rw [ne_empty hS, ← in_spaces hS]
    rename _ = false => hh
    rw [hh]
    rfl
set_option maxHeartbeats 8000000 in
theorem is_char_spec (w mean mg mb) (S : Str) (ts : CTok) (hS : S.length = 1) : PM w mean mg mb 2 63 [.str S ts] fun R _ => R (.bool (isCh (ch S 0))) := by
  have hch : ch S 0 = S.cps.getD 0 0 := rfl
  unfold PM CallsTo
  intros
  rename_i hret
  refine wpAny_call ?_
  k_dflt (refine' code_def ?k1 ?k2 ?k3 ?k4 ?k5 ?kA ?kF ?kK ?k6 ?k7 ?k8 ?k9 ?kB ?_ ?c2 ?c3 ?c4 ?c5; (case kA | kF => exact rfl); (case kK => first | exact rfl | assumption); (case k1 | k2 | k3 | k4 | k5 => k_asm); (case k6 | k7 => k_is); (case k8 => first | exact room_0 (by assumption) | ktr_room); (case k9 => first | exact BindsTo.of_eq rfl | exact binds_K (by k_in) rfl (by k_is) rfl rfl rfl); (case c5 => decide); (case kB => exact locs rfl); (case c2 | c3 | c4 => exact rfl); k_whole; intro g' L' h' FG' F' N' B' X' T'; (try dsimp only); (try k_fold))
  (k_steps; (try repeat' ((with_reducible refine Stop.by ?_); ((with_reducible show wpAny _ _ (call (Value.ref 49) _) _ _ _); k_dflt (refine' CallsTo.use ?zs ?z1 ?z2 ?z3 ?z4 ?z5 ?zK ?zd ?zu ?_; (case z1 | z2 | z3 | z4 | z5 => k_asm); (case zK => first | exact rfl | assumption); (case zs => exact (PM.use (in_ranges_spec _ _ _ _ _ _) _)); (case zd => first | exact room_d (by assumption) (by exact rfl) | exact room_e (by assumption) (by exact rfl) | ktr_room); (case zu => first | exact room_u (by assumption) (by exact rfl) | exact room_v (by assumption) (by exact rfl) | exact room_x (by assumption) (by exact rfl) | exact room_w (by assumption) (by exact rfl) | exact room_y (by assumption) (by exact rfl) | ktr_units); (try dsimp only [RetV, len_0, len_1, len_2, len_3, len_4, len_5, len_6, len_7, len_8, len_9, len_10, len_11, len_12, len_13, len_14, len_15, len_16, len_17, len_18]); (with_reducible (repeat' (first | (refine And.intro ?_ ?_) | intro))); (all_goals (try dsimp only)); (all_goals (try (rename (∀ p : Addr × Obj, _ ∈ _ → @LT.lt Nat _ _ _) => zl1; k_lt zl1))); (all_goals (try contradiction)))); k_steps)))
  all_goals (dsimp only at hret)
  · refine retB hret (congrArg Value.bool ((in_spaces hS).trans ?_)) (by assumption) (by assumption)
    unfold isCh
    rw [if_pos (by (first | lia | omega))]
  · refine retB hret (congrArg Value.bool ?_) (by assumption) (by assumption)
    unfold isCh
    rw [if_neg (by (first | lia | omega))]
set_option maxHeartbeats 8000000 in
theorem is_small_spec (w mean mg mb) (S : Str) (ts : CTok) (hS : S.length = 1) : PM w mean mg mb 1 70 [.str S ts] fun R _ => R (.bool (isSm (ch S 0))) := by
  have hch : ch S 0 = S.cps.getD 0 0 := rfl
  unfold PM CallsTo
  intros
  rename_i hret
  refine wpAny_call ?_
  k_dflt (refine' code_def ?k1 ?k2 ?k3 ?k4 ?k5 ?kA ?kF ?kK ?k6 ?k7 ?k8 ?k9 ?kB ?_ ?c2 ?c3 ?c4 ?c5; (case kA | kF => exact rfl); (case kK => first | exact rfl | assumption); (case k1 | k2 | k3 | k4 | k5 => k_asm); (case k6 | k7 => k_is); (case k8 => first | exact room_0 (by assumption) | ktr_room); (case k9 => first | exact BindsTo.of_eq rfl | exact binds_K (by k_in) rfl (by k_is) rfl rfl rfl); (case c5 => decide); (case kB => exact locs rfl); (case c2 | c3 | c4 => exact rfl); k_whole; intro g' L' h' FG' F' N' B' X' T'; (try dsimp only); (try k_fold))
  k_steps
  all_goals (dsimp only at hret)
  all_goals (refine retB hret (congrArg Value.bool ?_) (by assumption) (by assumption))
  all_goals (rw [Bool.eq_iff_iff]; have q1 := lt_iff hS (Str.ofString "a") 97 (by decide +kernel); have q2 := gt_iff hS (Str.ofString "z") 122 (by decide +kernel); simp only [q1, q2] at *; simp only [isSm, Bool.not_eq_true', decide_eq_true_eq, decide_eq_false_iff_not]; (first | lia | omega))
set_option maxHeartbeats 8000000 in
theorem is_ns_spec (w mean mg mb) (S : Str) (ts : CTok) (hS : S.length = 1) (hc : ch S 0 < 128) : PM w mean mg mb 2 77 [.str S ts] fun R _ => R (.bool (isNs (ch S 0))) := by
  have hch : ch S 0 = S.cps.getD 0 0 := rfl
  unfold PM CallsTo
  intros
  rename_i hret
  refine wpAny_call ?_
  k_dflt (refine' code_def ?k1 ?k2 ?k3 ?k4 ?k5 ?kA ?kF ?kK ?k6 ?k7 ?k8 ?k9 ?kB ?_ ?c2 ?c3 ?c4 ?c5; (case kA | kF => exact rfl); (case kK => first | exact rfl | assumption); (case k1 | k2 | k3 | k4 | k5 => k_asm); (case k6 | k7 => k_is); (case k8 => first | exact room_0 (by assumption) | ktr_room); (case k9 => first | exact BindsTo.of_eq rfl | exact binds_K (by k_in) rfl (by k_is) rfl rfl rfl); (case c5 => decide); (case kB => exact locs rfl); (case c2 | c3 | c4 => exact rfl); k_whole; intro g' L' h' FG' F' N' B' X' T'; (try dsimp only); (try k_fold))
  (k_steps; (try repeat' ((with_reducible refine Stop.by ?_); ((with_reducible show wpAny _ _ (call (Value.ref 70) _) _ _ _); k_dflt (refine' CallsTo.use ?zs ?z1 ?z2 ?z3 ?z4 ?z5 ?zK ?zd ?zu ?_; (case z1 | z2 | z3 | z4 | z5 => k_asm); (case zK => first | exact rfl | assumption); (case zs => exact (PM.use (is_small_spec _ _ _ _ _ _ (by walk_at "zz side")) _)); (case zd => first | exact room_d (by assumption) (by exact rfl) | exact room_e (by assumption) (by exact rfl) | ktr_room); (case zu => first | exact room_u (by assumption) (by exact rfl) | exact room_v (by assumption) (by exact rfl) | exact room_x (by assumption) (by exact rfl) | exact room_w (by assumption) (by exact rfl) | exact room_y (by assumption) (by exact rfl) | ktr_units); (try dsimp only [RetV, len_0, len_1, len_2, len_3, len_4, len_5, len_6, len_7, len_8, len_9, len_10, len_11, len_12, len_13, len_14, len_15, len_16, len_17, len_18]); (with_reducible (repeat' (first | (refine And.intro ?_ ?_) | intro))); (all_goals (try dsimp only)); (all_goals (try (rename (∀ p : Addr × Obj, _ ∈ _ → @LT.lt Nat _ _ _) => zl1; k_lt zl1))); (all_goals (try contradiction)))); k_steps)))
  all_goals (dsimp only at hret)
  all_goals (refine retB hret (congrArg Value.bool ?_) (by assumption) (by assumption))
  all_goals (have q1 := lt_iff hS (Str.ofString "A") 65 (by decide +kernel); have q2 := gt_iff hS (Str.ofString "Z") 90 (by decide +kernel); have q3 := eq_one hS (Str.ofString "_") 95 (by decide +kernel); have q4 := eq_one hS (Str.ofString ":") 58 (by decide +kernel))
  all_goals (simp only [q1, q2, q3, q4] at *)
  all_goals (simp only [isSm, beq_iff_eq, beq_eq_false_iff_ne, ne_eq, decide_eq_true_eq, decide_eq_false_iff_not] at *)
  all_goals (rw [Bool.eq_iff_iff]; simp only [isNs, isSm, Bool.or_eq_true, Bool.not_eq_true', beq_iff_eq, decide_eq_true_eq, decide_eq_false_iff_not]; (first | lia | omega))
set_option maxHeartbeats 8000000 in
theorem is_nc_spec (w mean mg mb) (S : Str) (ts : CTok) (hS : S.length = 1) (hc : ch S 0 < 128) : PM w mean mg mb 3 84 [.str S ts] fun R _ => R (.bool (isNc (ch S 0))) := by
  have hch : ch S 0 = S.cps.getD 0 0 := rfl
  unfold PM CallsTo
  intros
  rename_i hret
  refine wpAny_call ?_
  k_dflt (refine' code_def ?k1 ?k2 ?k3 ?k4 ?k5 ?kA ?kF ?kK ?k6 ?k7 ?k8 ?k9 ?kB ?_ ?c2 ?c3 ?c4 ?c5; (case kA | kF => exact rfl); (case kK => first | exact rfl | assumption); (case k1 | k2 | k3 | k4 | k5 => k_asm); (case k6 | k7 => k_is); (case k8 => first | exact room_0 (by assumption) | ktr_room); (case k9 => first | exact BindsTo.of_eq rfl | exact binds_K (by k_in) rfl (by k_is) rfl rfl rfl); (case c5 => decide); (case kB => exact locs rfl); (case c2 | c3 | c4 => exact rfl); k_whole; intro g' L' h' FG' F' N' B' X' T'; (try dsimp only); (try k_fold))
  (k_steps; (try repeat' ((with_reducible refine Stop.by ?_); ((with_reducible show wpAny _ _ (call (Value.ref 77) _) _ _ _); k_dflt (refine' CallsTo.use ?zs ?z1 ?z2 ?z3 ?z4 ?z5 ?zK ?zd ?zu ?_; (case z1 | z2 | z3 | z4 | z5 => k_asm); (case zK => first | exact rfl | assumption); (case zs => exact (PM.use (is_ns_spec _ _ _ _ _ _ (by walk_at "zz side") (by walk_at "zz side")) _)); (case zd => first | exact room_d (by assumption) (by exact rfl) | exact room_e (by assumption) (by exact rfl) | ktr_room); (case zu => first | exact room_u (by assumption) (by exact rfl) | exact room_v (by assumption) (by exact rfl) | exact room_x (by assumption) (by exact rfl) | exact room_w (by assumption) (by exact rfl) | exact room_y (by assumption) (by exact rfl) | ktr_units); (try dsimp only [RetV, len_0, len_1, len_2, len_3, len_4, len_5, len_6, len_7, len_8, len_9, len_10, len_11, len_12, len_13, len_14, len_15, len_16, len_17, len_18]); (with_reducible (repeat' (first | (refine And.intro ?_ ?_) | intro))); (all_goals (try dsimp only)); (all_goals (try (rename (∀ p : Addr × Obj, _ ∈ _ → @LT.lt Nat _ _ _) => zl1; k_lt zl1))); (all_goals (try contradiction)))); k_steps)))
  all_goals (dsimp only at hret)
  all_goals (refine retB hret (congrArg Value.bool ?_) (by assumption) (by assumption))
  all_goals (have q1 := lt_iff hS (Str.ofString "0") 48 (by decide +kernel); have q2 := gt_iff hS (Str.ofString "9") 57 (by decide +kernel); have q3 := eq_one hS (Str.ofString "-") 45 (by decide +kernel); have q4 := eq_one hS (Str.ofString ".") 46 (by decide +kernel))
  all_goals (simp only [q1, q2, q3, q4] at *)
  all_goals (rename isNs _ = _ => h7; rw [isNc, h7])
  all_goals (try simp only [beq_iff_eq, beq_eq_false_iff_ne, ne_eq, decide_eq_true_eq, decide_eq_false_iff_not] at *)
  all_goals (rw [Bool.eq_iff_iff]; simp only [Bool.or_eq_true, Bool.not_eq_true', beq_iff_eq, decide_eq_true_eq, decide_eq_false_iff_not, Bool.true_eq_false, Bool.false_eq_true, true_or, false_or, or_assoc]; try (first | lia | omega))


theorem is_space1 (w mean mg mb) (c : Nat) (ts : CTok) : PM w mean mg mb 1 56 [.str ⟨#[c]⟩ ts] fun R _ => R (.bool (isSp c)) := is_space_spec w mean mg mb ⟨#[c]⟩ ts rfl
theorem is_char1 (w mean mg mb) (c : Nat) (ts : CTok) : PM w mean mg mb 2 63 [.str ⟨#[c]⟩ ts] fun R _ => R (.bool (isCh c)) := is_char_spec w mean mg mb ⟨#[c]⟩ ts rfl
theorem is_ns1 (w mean mg mb) (c : Nat) (ts : CTok) (hc : c < 128) : PM w mean mg mb 2 77 [.str ⟨#[c]⟩ ts] fun R _ => R (.bool (isNs c)) := is_ns_spec w mean mg mb ⟨#[c]⟩ ts rfl hc
theorem is_nc1 (w mean mg mb) (c : Nat) (ts : CTok) (hc : c < 128) : PM w mean mg mb 3 84 [.str ⟨#[c]⟩ ts] fun R _ => R (.bool (isNc c)) := is_nc_spec w mean mg mb ⟨#[c]⟩ ts rfl hc
end Mine
end -- P1
section -- P2
namespace Mine
set_option maxHeartbeats 8000000 in
theorem fault_spec (w mean mg mb) (T : Str) (k : Nat) (mv : Str) (tm : CTok) : CM w mean mg mb 5 344 T k [.str mv tm] fun R X => X k k := by
  refine CM.of ?_ (by intro R R' X X' hR hX h; (first | exact hR _ _ h | exact hX _ _ h | exact fun a b c d => hR _ _ (h a b c d) | exact ⟨fun q => hR _ _ (h.1 q), fun q => hR _ _ (h.2 q)⟩ | exact ⟨fun q => hR _ _ (h.1 q), fun q => hX _ _ (h.2 q)⟩))
  unfold CM0 CallsTo
  intros
  rename_i hret
  refine wpAny_call ?_
  k_dflt (refine' code_def ?k1 ?k2 ?k3 ?k4 ?k5 ?kA ?kF ?kK ?k6 ?k7 ?k8 ?k9 ?kB ?_ ?c2 ?c3 ?c4 ?c5; (case kA | kF => exact rfl); (case kK => first | exact rfl | assumption); (case k1 | k2 | k3 | k4 | k5 => k_asm); (case k6 | k7 => k_is); (case k8 => first | exact room_0 (by assumption) | ktr_room); (case k9 => first | exact BindsTo.of_eq rfl | exact binds_K (by k_in) rfl (by k_is) rfl rfl rfl); (case c5 => decide); (case kB => exact locs rfl); (case c2 | c3 | c4 => exact rfl); k_whole; intro g' L' h' FG' F' N' B' X' T'; (try dsimp only); (try k_fold))
  (k_steps; (try repeat' ((with_reducible refine Stop.by ?_); (first | ((with_reducible show wpAny _ _ (call (Value.ref 150) _) _ _ _); k_dflt (refine' CallsTo.use (sf_call _ _ _ _ _ _ _ _ _) ?z1 ?z2 ?z3 ?z4 ?z5 ?zK ?zd ?zu ?_; (case z1 | z2 | z3 | z4 | z5 => k_asm); (case zK => first | exact rfl | assumption); (case zd => first | exact room_d (by assumption) (by exact rfl) | exact room_e (by assumption) (by exact rfl) | ktr_room); (case zu => first | exact room_u (by assumption) (by exact rfl) | exact room_v (by assumption) (by exact rfl) | exact room_x (by assumption) (by exact rfl) | exact room_w (by assumption) (by exact rfl) | exact room_y (by assumption) (by exact rfl) | ktr_units); intro e' t' oe' h' tk' hX' hg' hc' hd' hM'; (try dsimp only))) | ((with_reducible show wpAny _ _ (exec (Stmt.Raise _ _ _) _) _ _ _); k_dflt (refine' raise150 ?h ?_; (case h => exact rfl); (try k_fold))) | ((with_reducible show Exists _); (rename MadeF _ _ _ _ _ _ _ _ _ => hM9); refine ⟨_, _, _, rfl, by assumption, by assumption, by assumption, by assumption, ?_⟩) | ((with_reducible show wpAny _ _ (leaving _ (Value.ref _)) _ _ _); (k_dflt first | (refine' leave_newF (hk := by rfl) ?k1 ?k2 ?_; (case k2 => assumption); (case k1 => assumption); k_whole; intro h' R' U'; (try dsimp only at R' U' ⊢)) | (refine' leave_onF ?k1 ?k2 ?k3 ?k4 ?_; (case k3 => assumption); (case k1 => assumption); (case k2 => assumption); (case k4 => assumption); k_whole; intro h' R' U'; (try dsimp only at R' U' ⊢))))); k_steps)))
  dsimp only at hret
  (refine' excB (hret _) ?R rfl ?U ?F; (case R => assumption); (case U => assumption); (case F => assumption))
set_option maxHeartbeats 8000000 in
theorem is_over_spec (w mean mg mb) (T : Str) (k : Nat) (hT : T.length ≤ 1000) : CM w mean mg mb 1 322 T k [] fun R X => R (.val (.bool (decide (T.length ≤ k)))) k := by
  refine CM.of ?_ (by intro R R' X X' hR hX h; (first | exact hR _ _ h | exact hX _ _ h | exact fun a b c d => hR _ _ (h a b c d) | exact ⟨fun q => hR _ _ (h.1 q), fun q => hR _ _ (h.2 q)⟩ | exact ⟨fun q => hR _ _ (h.1 q), fun q => hX _ _ (h.2 q)⟩))
  unfold CM0 CallsTo
  intros
  rename_i hret
  refine wpAny_call ?_
  k_dflt (refine' code_def ?k1 ?k2 ?k3 ?k4 ?k5 ?kA ?kF ?kK ?k6 ?k7 ?k8 ?k9 ?kB ?_ ?c2 ?c3 ?c4 ?c5; (case kA | kF => exact rfl); (case kK => first | exact rfl | assumption); (case k1 | k2 | k3 | k4 | k5 => k_asm); (case k6 | k7 => k_is); (case k8 => first | exact room_0 (by assumption) | ktr_room); (case k9 => first | exact BindsTo.of_eq rfl | exact binds_K (by k_in) rfl (by k_is) rfl rfl rfl); (case c5 => decide); (case kB => exact locs rfl); (case c2 | c3 | c4 => exact rfl); k_whole; intro g' L' h' FG' F' N' B' X' T'; (try dsimp only); (try k_fold))
  k_steps
  dsimp only [RetV] at hret
  refine retB (hret _) (congrArg Value.bool (decide_eq_decide.mpr (by (first | lia | omega)))) (by assumption) (by assumption)
set_option maxHeartbeats 8000000 in
theorem peek_spec (w mean mg mb) (T : Str) (k : Nat) (hT : T.length ≤ 1000) (hk : k ≤ T.length) : CM w mean mg mb 1 330 T k [] fun R X => ∀ S t, (k < T.length → S = ⟨#[ch T k]⟩) → (T.length ≤ k → S = ⟨#[]⟩) → R (.val (.str S t)) k := by
  refine CM.of ?_ (by intro R R' X X' hR hX h; (first | exact hR _ _ h | exact hX _ _ h | exact fun a b c d => hR _ _ (h a b c d) | exact ⟨fun q => hR _ _ (h.1 q), fun q => hR _ _ (h.2 q)⟩ | exact ⟨fun q => hR _ _ (h.1 q), fun q => hX _ _ (h.2 q)⟩))
  unfold CM0 CallsTo
  intros
  rename_i hret
  refine wpAny_call ?_
  k_dflt (refine' code_def ?k1 ?k2 ?k3 ?k4 ?k5 ?kA ?kF ?kK ?k6 ?k7 ?k8 ?k9 ?kB ?_ ?c2 ?c3 ?c4 ?c5; (case kA | kF => exact rfl); (case kK => first | exact rfl | assumption); (case k1 | k2 | k3 | k4 | k5 => k_asm); (case k6 | k7 => k_is); (case k8 => first | exact room_0 (by assumption) | ktr_room); (case k9 => first | exact BindsTo.of_eq rfl | exact binds_K (by k_in) rfl (by k_is) rfl rfl rfl); (case c5 => decide); (case kB => exact locs rfl); (case c2 | c3 | c4 => exact rfl); k_whole; intro g' L' h' FG' F' N' B' X' T'; (try dsimp only); (try k_fold))
  k_steps
  dsimp only [RetV] at hret
  refine hret _ _ (fun h => ?_) (fun h => ?_) _ _ _ (by assumption) (by assumption)
  · exact (slice_nat T (Nat.le_succ k) h).trans (peek1 h)
  · exact slice_end T h (by (first | lia | omega))
set_option maxHeartbeats 8000000 in
theorem looks_spec (w mean mg mb) (T : Str) (k : Nat) (hT : T.length ≤ 1000) (hk : k ≤ T.length) (W : Str) (tw : CTok) : CM w mean mg mb 1 337 T k [.str W tw] fun R X => R (.val (.bool (decide (Hit T W k)))) k := by
  refine CM.of ?_ (by intro R R' X X' hR hX h; (first | exact hR _ _ h | exact hX _ _ h | exact fun a b c d => hR _ _ (h a b c d) | exact ⟨fun q => hR _ _ (h.1 q), fun q => hR _ _ (h.2 q)⟩ | exact ⟨fun q => hR _ _ (h.1 q), fun q => hX _ _ (h.2 q)⟩))
  unfold CM0 CallsTo
  intros
  rename_i hret
  refine wpAny_call ?_
  k_dflt (refine' code_def ?k1 ?k2 ?k3 ?k4 ?k5 ?kA ?kF ?kK ?k6 ?k7 ?k8 ?k9 ?kB ?_ ?c2 ?c3 ?c4 ?c5; (case kA | kF => exact rfl); (case kK => first | exact rfl | assumption); (case k1 | k2 | k3 | k4 | k5 => k_asm); (case k6 | k7 => k_is); (case k8 => first | exact room_0 (by assumption) | ktr_room); (case k9 => first | exact BindsTo.of_eq rfl | exact binds_K (by k_in) rfl (by k_is) rfl rfl rfl); (case c5 => decide); (case kB => exact locs rfl); (case c2 | c3 | c4 => exact rfl); k_whole; intro g' L' h' FG' F' N' B' X' T'; (try dsimp only); (try k_fold))
  k_steps
  dsimp only [RetV] at hret
  exact retB (hret _) (congrArg Value.bool (sw_nat T W k)) (by assumption) (by assumption)


set_option maxHeartbeats 8000000 in
theorem take_spec (w mean mg mb) (T : Str) (k n : Nat) (tn : CTok) (hT : T.length ≤ 1000) (hk : k + n ≤ T.length) : CM w mean mg mb 1 352 T k [.int n tn] fun R X => ∀ S t, R (.val (.str S t)) (k + n) := by
  have hs : (Txt.slice T (some ↑k) (some (↑k + ↑n))).length = n := by
    have := sub_len T (Nat.le_add_right k n) hk
    rw [← slice_nat T (Nat.le_add_right k n) hk, Nat.add_sub_cancel_left] at this
    exact this
  refine CM.of ?_ (by intro R R' X X' hR hX h; exact fun S t => hR _ _ (h S t))
  unfold CM0 CallsTo
  intros
  rename_i hret
  refine wpAny_call ?_
  k_dflt (refine' code_def ?k1 ?k2 ?k3 ?k4 ?k5 ?kA ?kF ?kK ?k6 ?k7 ?k8 ?k9 ?kB ?_ ?c2 ?c3 ?c4 ?c5; (case kA | kF => exact rfl); (case kK => first | exact rfl | assumption); (case k1 | k2 | k3 | k4 | k5 => k_asm); (case k6 | k7 => k_is); (case k8 => first | exact room_0 (by assumption) | ktr_room); (case k9 => first | exact BindsTo.of_eq rfl | exact binds_K (by k_in) rfl (by k_is) rfl rfl rfl); (case c5 => decide); (case kB => exact locs rfl); (case c2 | c3 | c4 => exact rfl); k_whole; intro g' L' h' FG' F' N' B' X' T'; (try dsimp only); (try k_fold))
  k_steps
  dsimp only [RetV] at hret
  exact hret _ _ _ _ _ (by assumption) (by assumption)
set_option maxHeartbeats 8000000 in
theorem take1_spec (w mean mg mb) (T : Str) (k : Nat) (hT : T.length ≤ 1000) (hk : k + 1 ≤ T.length) : CM w mean mg mb 1 352 T k [] fun R X => ∀ S t, R (.val (.str S t)) (k + 1) := by
  have hs : (Txt.slice T (some ↑k) (some (↑k + 1))).length = 1 := by
    have := sub_len T (Nat.le_add_right k 1) hk
    rw [← slice_nat T (Nat.le_add_right k 1) hk, Nat.add_sub_cancel_left] at this
    exact this
  refine CM.of ?_ (by intro R R' X X' hR hX h; exact fun S t => hR _ _ (h S t))
  unfold CM0 CallsTo
  intros
  rename_i hret
  refine wpAny_call ?_
  k_dflt (refine' code_def ?k1 ?k2 ?k3 ?k4 ?k5 ?kA ?kF ?kK ?k6 ?k7 ?k8 ?k9 ?kB ?_ ?c2 ?c3 ?c4 ?c5; (case kA | kF => exact rfl); (case kK => first | exact rfl | assumption); (case k1 | k2 | k3 | k4 | k5 => k_asm); (case k6 | k7 => k_is); (case k8 => first | exact room_0 (by assumption) | ktr_room); (case k9 => first | exact BindsTo.of_eq rfl | exact binds_K (by k_in) rfl (by k_is) rfl rfl rfl); (case c5 => decide); (case kB => exact locs rfl); (case c2 | c3 | c4 => exact rfl); k_whole; intro g' L' h' FG' F' N' B' X' T'; (try dsimp only); (try k_fold))
  k_steps
  dsimp only [RetV] at hret
  exact hret _ _ _ _ _ (by assumption) (by assumption)
set_option maxHeartbeats 8000000 in
theorem skip_spec (w mean mg mb) (T : Str) (k : Nat) (hT : T.length ≤ 1000) (hk : k ≤ T.length) (W : Str) (tw : CTok) (hW : W.length ≤ 1000) : CM w mean mg mb 1 359 T k [.str W tw] fun R X => (Hit T W k → R (.val (.bool true)) (k + W.length)) ∧ (¬ Hit T W k → R (.val (.bool false)) k) := by
  have e := sw_nat T W k
  refine CM.of ?_ (by intro R R' X X' hR hX h; (first | exact hR _ _ h | exact hX _ _ h | exact fun a b c d => hR _ _ (h a b c d) | exact ⟨fun q => hR _ _ (h.1 q), fun q => hR _ _ (h.2 q)⟩ | exact ⟨fun q => hR _ _ (h.1 q), fun q => hX _ _ (h.2 q)⟩))
  unfold CM0 CallsTo
  intros
  rename_i hret
  refine wpAny_call ?_
  k_dflt (refine' code_def ?k1 ?k2 ?k3 ?k4 ?k5 ?kA ?kF ?kK ?k6 ?k7 ?k8 ?k9 ?kB ?_ ?c2 ?c3 ?c4 ?c5; (case kA | kF => exact rfl); (case kK => first | exact rfl | assumption); (case k1 | k2 | k3 | k4 | k5 => k_asm); (case k6 | k7 => k_is); (case k8 => first | exact room_0 (by assumption) | ktr_room); (case k9 => first | exact BindsTo.of_eq rfl | exact binds_K (by k_in) rfl (by k_is) rfl rfl rfl); (case c5 => decide); (case kB => exact locs rfl); (case c2 | c3 | c4 => exact rfl); k_whole; intro g' L' h' FG' F' N' B' X' T'; (try dsimp only); (try k_fold))
  k_steps
  all_goals (dsimp only [RetV] at hret)
  · exact hret.1 (of_decide_eq_true (e.symm.trans (by assumption))) _ _ _ (by assumption) (by assumption)
  · exact hret.2 (of_decide_eq_false (e.symm.trans (by assumption))) _ _ _ (by assumption) (by assumption)
set_option maxHeartbeats 8000000 in
theorem until_spec (w mean mg mb) (T : Str) (k : Nat) (hT : T.length ≤ 1000) (hk : k ≤ T.length) (W : Str) (tw : CTok) (hW : W.length ≤ 1000) : CM w mean mg mb 6 373 T k [.str W tw] fun R X => ∀ r, Fst T W k r → (r = none → X k k) ∧ (∀ j, r = some j → ∀ t, R (.val (.str (sub T k j) t)) (j + W.length)) := by
  obtain ⟨r, hr, er⟩ := find3_nat T W k
  refine CM.of ?_ (by intro R R' X X' hR hX h; exact fun r hr => ⟨fun q => hX _ _ ((h r hr).1 q), fun j q t => hR _ _ ((h r hr).2 j q t)⟩)
  unfold CM0 CallsTo
  intros
  rename_i hret
  refine wpAny_call ?_
  k_dflt (refine' code_def ?k1 ?k2 ?k3 ?k4 ?k5 ?kA ?kF ?kK ?k6 ?k7 ?k8 ?k9 ?kB ?_ ?c2 ?c3 ?c4 ?c5; (case kA | kF => exact rfl); (case kK => first | exact rfl | assumption); (case k1 | k2 | k3 | k4 | k5 => k_asm); (case k6 | k7 => k_is); (case k8 => first | exact room_0 (by assumption) | ktr_room); (case k9 => first | exact BindsTo.of_eq rfl | exact binds_K (by k_in) rfl (by k_is) rfl rfl rfl); (case c5 => decide); (case kB => exact locs rfl); (case c2 | c3 | c4 => exact rfl); k_whole; intro g' L' h' FG' F' N' B' X' T'; (try dsimp only); (try k_fold))
  (k_steps; (try repeat' ((with_reducible refine Stop.by ?_); (first | ((with_reducible show wpAny _ _ (call (Value.ref 344) _) _ _ _); k_dflt (refine' CM.useI ?zs ?z1 ?z2 ?z3 ?z4 ?z5 ?zK ?zd ?zu ?zc ?zU ?ze ?_; (case z1 | z2 | z3 | z4 | z5 => k_asm); (case zK => first | exact rfl | assumption); (case zc => k_mem); (case zU => k_updF); (case ze => first | with_reducible exact rfl | with_reducible exact ca1 _ | with_reducible exact caN _ _ | exact ca0); (case zs => exact (fault_spec _ _ _ _ _ _ _ _)); (case zd => first | exact room_d (by assumption) (by exact rfl) | exact room_e (by assumption) (by exact rfl) | ktr_room); (case zu => first | exact room_u (by assumption) (by exact rfl) | exact room_v (by assumption) (by exact rfl) | exact room_x (by assumption) (by exact rfl) | exact room_w (by assumption) (by exact rfl) | exact room_y (by assumption) (by exact rfl) | ktr_units); (try dsimp only [RetV, len_0, len_1, len_2, len_3, len_4, len_5, len_6, len_7, len_8, len_9, len_10, len_11, len_12, len_13, len_14, len_15, len_16, len_17, len_18]); (with_reducible (repeat' (first | (refine And.intro ?_ ?_) | intro))); (all_goals (try dsimp only)); (all_goals (try (rename (∀ p : Addr × Obj, _ ∈ _ → @LT.lt Nat _ _ _) => zl1; k_lt zl1))); (all_goals (try contradiction)))) | ((with_reducible show wpAny _ _ (call (Value.ref 150) _) _ _ _); k_dflt (refine' CallsTo.use (sf_call _ _ _ _ _ _ _ _ _) ?z1 ?z2 ?z3 ?z4 ?z5 ?zK ?zd ?zu ?_; (case z1 | z2 | z3 | z4 | z5 => k_asm); (case zK => first | exact rfl | assumption); (case zd => first | exact room_d (by assumption) (by exact rfl) | exact room_e (by assumption) (by exact rfl) | ktr_room); (case zu => first | exact room_u (by assumption) (by exact rfl) | exact room_v (by assumption) (by exact rfl) | exact room_x (by assumption) (by exact rfl) | exact room_w (by assumption) (by exact rfl) | exact room_y (by assumption) (by exact rfl) | ktr_units); intro e' t' oe' h' tk' hX' hg' hc' hd' hM'; (try dsimp only))) | ((with_reducible show wpAny _ _ (exec (Stmt.Raise _ _ _) _) _ _ _); k_dflt (refine' raise150 ?h ?_; (case h => exact rfl); (try k_fold))) | ((with_reducible show Exists _); (rename MadeF _ _ _ _ _ _ _ _ _ => hM9); refine ⟨_, _, _, rfl, by assumption, by assumption, by assumption, by assumption, ?_⟩) | ((with_reducible show wpAny _ _ (leaving _ (Value.ref _)) _ _ _); (k_dflt first | (refine' leave_newF (hk := by rfl) ?k1 ?k2 ?_; (case k2 => assumption); (case k1 => assumption); k_whole; intro h' R' U'; (try dsimp only at R' U' ⊢)) | (refine' leave_onF ?k1 ?k2 ?k3 ?k4 ?_; (case k3 => assumption); (case k1 => assumption); (case k2 => assumption); (case k4 => assumption); k_whole; intro h' R' U'; (try dsimp only at R' U' ⊢))))); k_steps)))
  all_goals (dsimp only [RetV] at hret)
  · have hn : r = none := by
      cases r with
      | none => rfl
      | some j => exfalso; dsimp only at er; (first | lia | omega)
    (refine' excB ((hret r hr).1 hn _) ?R rfl ?U ?F; (case R => assumption); (case U => assumption); (case F => assumption))
  · cases r with
    | none => exfalso; dsimp only at er; (first | lia | omega)
    | some j =>
      have er : Txt.find3 T W ↑k = (j : Int) := er
      rename News _ _ _ _ => nn
      rw [er] at nn
      have es : Txt.slice T (some ↑k) (some (Txt.find3 T W ↑k)) = sub T k j := by rw [er, slice_nat T hr.1 (by have := hr.le; (first | lia | omega))]
      exact retB ((hret (some j) hr).2 j rfl _ _) (congrArg (fun x => Value.str x _) es) (by assumption) nn
end Mine
end -- P2
section -- P3
namespace Mine
set_option maxHeartbeats 8000000 in
theorem expect_spec (w mean mg mb) (T : Str) (k : Nat) (hT : T.length ≤ 1000) (hk : k ≤ T.length) (W : Str) (tw : CTok) (hW : W.length ≤ 1000) : CM w mean mg mb 6 366 T k [.str W tw] fun R X => (Hit T W k → R (.val .none) (k + W.length)) ∧ (¬ Hit T W k → X k k) := by
  refine CM.of ?_ (by intro R R' X X' hR hX h; (first | exact hR _ _ h | exact hX _ _ h | exact fun a b c d => hR _ _ (h a b c d) | exact ⟨fun q => hR _ _ (h.1 q), fun q => hR _ _ (h.2 q)⟩ | exact ⟨fun q => hR _ _ (h.1 q), fun q => hX _ _ (h.2 q)⟩))
  unfold CM0 CallsTo
  intros
  rename_i hret
  refine wpAny_call ?_
  k_dflt (refine' code_def ?k1 ?k2 ?k3 ?k4 ?k5 ?kA ?kF ?kK ?k6 ?k7 ?k8 ?k9 ?kB ?_ ?c2 ?c3 ?c4 ?c5; (case kA | kF => exact rfl); (case kK => first | exact rfl | assumption); (case k1 | k2 | k3 | k4 | k5 => k_asm); (case k6 | k7 => k_is); (case k8 => first | exact room_0 (by assumption) | ktr_room); (case k9 => first | exact BindsTo.of_eq rfl | exact binds_K (by k_in) rfl (by k_is) rfl rfl rfl); (case c5 => decide); (case kB => exact locs rfl); (case c2 | c3 | c4 => exact rfl); k_whole; intro g' L' h' FG' F' N' B' X' T'; (try dsimp only); (try k_fold))
  (k_steps; (try repeat' ((with_reducible refine Stop.by ?_); (first | ((first | (with_reducible show wpAny _ _ (call (Value.ref 359) _) _ _ _) | (with_reducible show wpAny _ _ (call (Value.ref 344) _) _ _ _)); k_dflt (refine' CM.useI ?zs ?z1 ?z2 ?z3 ?z4 ?z5 ?zK ?zd ?zu ?zc ?zU ?ze ?_; (case z1 | z2 | z3 | z4 | z5 => k_asm); (case zK => first | exact rfl | assumption); (case zc => k_mem); (case zU => k_updF); (case ze => first | with_reducible exact rfl | with_reducible exact ca1 _ | with_reducible exact caN _ _ | exact ca0); (case zs => first | exact (skip_spec _ _ _ _ _ _ (by walk_at "zz side") (by walk_at "zz side") _ _ (by walk_at "zz side")) | exact (fault_spec _ _ _ _ _ _ _ _)); (case zd => first | exact room_d (by assumption) (by exact rfl) | exact room_e (by assumption) (by exact rfl) | ktr_room); (case zu => first | exact room_u (by assumption) (by exact rfl) | exact room_v (by assumption) (by exact rfl) | exact room_x (by assumption) (by exact rfl) | exact room_w (by assumption) (by exact rfl) | exact room_y (by assumption) (by exact rfl) | ktr_units); (try dsimp only [RetV, len_0, len_1, len_2, len_3, len_4, len_5, len_6, len_7, len_8, len_9, len_10, len_11, len_12, len_13, len_14, len_15, len_16, len_17, len_18]); (with_reducible (repeat' (first | (refine And.intro ?_ ?_) | intro))); (all_goals (try dsimp only)); (all_goals (try (rename (∀ p : Addr × Obj, _ ∈ _ → @LT.lt Nat _ _ _) => zl1; k_lt zl1))); (all_goals (try contradiction)))) | ((with_reducible show wpAny _ _ (call (Value.ref 150) _) _ _ _); k_dflt (refine' CallsTo.use (sf_call _ _ _ _ _ _ _ _ _) ?z1 ?z2 ?z3 ?z4 ?z5 ?zK ?zd ?zu ?_; (case z1 | z2 | z3 | z4 | z5 => k_asm); (case zK => first | exact rfl | assumption); (case zd => first | exact room_d (by assumption) (by exact rfl) | exact room_e (by assumption) (by exact rfl) | ktr_room); (case zu => first | exact room_u (by assumption) (by exact rfl) | exact room_v (by assumption) (by exact rfl) | exact room_x (by assumption) (by exact rfl) | exact room_w (by assumption) (by exact rfl) | exact room_y (by assumption) (by exact rfl) | ktr_units); intro e' t' oe' h' tk' hX' hg' hc' hd' hM'; (try dsimp only))) | ((with_reducible show wpAny _ _ (exec (Stmt.Raise _ _ _) _) _ _ _); k_dflt (refine' raise150 ?h ?_; (case h => exact rfl); (try k_fold))) | ((with_reducible show Exists _); (rename MadeF _ _ _ _ _ _ _ _ _ => hM9); refine ⟨_, _, _, rfl, by assumption, by assumption, by assumption, by assumption, ?_⟩) | ((with_reducible show wpAny _ _ (leaving _ (Value.ref _)) _ _ _); (k_dflt first | (refine' leave_newF (hk := by rfl) ?k1 ?k2 ?_; (case k2 => assumption); (case k1 => assumption); k_whole; intro h' R' U'; (try dsimp only at R' U' ⊢)) | (refine' leave_onF ?k1 ?k2 ?k3 ?k4 ?_; (case k3 => assumption); (case k1 => assumption); (case k2 => assumption); (case k4 => assumption); k_whole; intro h' R' U'; (try dsimp only at R' U' ⊢))))); k_steps)))
  all_goals (dsimp only [RetV] at hret)
  · exact hret.1 (by assumption) _ _ _ (by assumption) (by assumption)
  · (refine' excB (hret.2 ?q _) ?R rfl ?U ?F; (case q => assumption); (case R => assumption); (case U => assumption); (case F => assumption))
/-- the run of spaces from k on ends at j -/
noncomputable def Sps (T : Str) (k j : Nat) : Prop := k ≤ j ∧ j ≤ T.length ∧ (∀ i, k ≤ i → i < j → isSp (ch T i) = true) ∧ (j < T.length → isSp (ch T j) = false)
set_option maxHeartbeats 8000000 in
theorem spaces_spec (w mean mg mb) (T : Str) (k : Nat) (hT : T.length ≤ 1000) (hk : k ≤ T.length) : CM w mean mg mb 2 387 T k [] fun R X => ∀ j, Sps T k j → ∀ t, R (.val (.int (j - k : Nat) t)) j := by
  refine CM.of ?_ (by intro R R' X X' hR hX h; exact fun j q t => hR _ _ (h j q t))
  unfold CM0 CallsTo
  intros
  rename_i hret
  refine wpAny_call ?_
  k_dflt (refine' code_def ?k1 ?k2 ?k3 ?k4 ?k5 ?kA ?kF ?kK ?k6 ?k7 ?k8 ?k9 ?kB ?_ ?c2 ?c3 ?c4 ?c5; (case kA | kF => exact rfl); (case kK => first | exact rfl | assumption); (case k1 | k2 | k3 | k4 | k5 => k_asm); (case k6 | k7 => k_is); (case k8 => first | exact room_0 (by assumption) | ktr_room); (case k9 => first | exact BindsTo.of_eq rfl | exact binds_K (by k_in) rfl (by k_is) rfl rfl rfl); (case c5 => decide); (case kB => exact locs rfl); (case c2 | c3 | c4 => exact rfl); k_whole; intro g' L' h' FG' F' N' B' X' T'; (try dsimp only); (try k_fold))
  (k_steps; (try repeat' ((with_reducible refine Stop.by ?_); (first | ((with_reducible show wpAny _ _ (call (Value.ref 150) _) _ _ _); k_dflt (refine' CallsTo.use (sf_call _ _ _ _ _ _ _ _ _) ?z1 ?z2 ?z3 ?z4 ?z5 ?zK ?zd ?zu ?_; (case z1 | z2 | z3 | z4 | z5 => k_asm); (case zK => first | exact rfl | assumption); (case zd => first | exact room_d (by assumption) (by exact rfl) | exact room_e (by assumption) (by exact rfl) | ktr_room); (case zu => first | exact room_u (by assumption) (by exact rfl) | exact room_v (by assumption) (by exact rfl) | exact room_x (by assumption) (by exact rfl) | exact room_w (by assumption) (by exact rfl) | exact room_y (by assumption) (by exact rfl) | ktr_units); intro e' t' oe' h' tk' hX' hg' hc' hd' hM'; (try dsimp only))) | ((with_reducible show wpAny _ _ (exec (Stmt.Raise _ _ _) _) _ _ _); k_dflt (refine' raise150 ?h ?_; (case h => exact rfl); (try k_fold))) | ((with_reducible show Exists _); (rename MadeF _ _ _ _ _ _ _ _ _ => hM9); refine ⟨_, _, _, rfl, by assumption, by assumption, by assumption, by assumption, ?_⟩) | ((with_reducible show wpAny _ _ (leaving _ (Value.ref _)) _ _ _); (k_dflt first | (refine' leave_newF (hk := by rfl) ?k1 ?k2 ?_; (case k2 => assumption); (case k1 => assumption); k_whole; intro h' R' U'; (try dsimp only at R' U' ⊢)) | (refine' leave_onF ?k1 ?k2 ?k3 ?k4 ?_; (case k3 => assumption); (case k1 => assumption); (case k2 => assumption); (case k4 => assumption); k_whole; intro h' R' U'; (try dsimp only at R' U' ⊢)))) | ((with_reducible show wpAny _ _ (subscriptTail _ _ (Value.str _ _) (Value.int _ _)) _ _ _); (k_dflt (refine' item_at ?hs ?h2 ?_ (by with_unfolding_all rfl) (by intro _; with_unfolding_all rfl); (case hs => omega); (case h2 => omega); (try dsimp only))))); k_steps)))
  refine Stop.by ?_
  rename Fr _ _ _ _ => lF
  rename News _ _ _ _ => lN
  refine whl_keep (hE := by passes_own) (σ := Nat × CTok) (fun c => [(_, instObj 418 _), (_, curD w.params _ T _ _ (c.1 : Nat) c.2)] ++ _) (fun c => k ≤ c.1 ∧ c.1 ≤ T.length ∧ ∀ i, k ≤ i → i < c.1 → isSp (ch T i) = true) (fun c => T.length - c.1) ⟨k, _⟩ lF lN ⟨Nat.le_refl _, hk, fun i a b => absurd a (by omega)⟩ ?_
  rintro ⟨p, tp⟩ h tk ⟨hp1, hp2, hp3⟩ cF cN
  clear lF lN
  dsimp only at cN
  (k_steps; (try repeat' ((with_reducible refine Stop.by ?_); (first | ((with_reducible show wpAny _ _ (call (Value.ref 56) _) _ _ _); k_dflt (refine' CallsTo.use ?zs ?z1 ?z2 ?z3 ?z4 ?z5 ?zK ?zd ?zu ?_; (case z1 | z2 | z3 | z4 | z5 => k_asm); (case zK => first | exact rfl | assumption); (case zs => exact (PM.use (is_space1 _ _ _ _ _ _) _)); (case zd => first | exact room_d (by assumption) (by exact rfl) | exact room_e (by assumption) (by exact rfl) | ktr_room); (case zu => first | exact room_u (by assumption) (by exact rfl) | exact room_v (by assumption) (by exact rfl) | exact room_x (by assumption) (by exact rfl) | exact room_w (by assumption) (by exact rfl) | exact room_y (by assumption) (by exact rfl) | ktr_units); (try dsimp only [RetV, len_0, len_1, len_2, len_3, len_4, len_5, len_6, len_7, len_8, len_9, len_10, len_11, len_12, len_13, len_14, len_15, len_16, len_17, len_18]); (with_reducible (repeat' (first | (refine And.intro ?_ ?_) | intro))); (all_goals (try dsimp only)); (all_goals (try (rename (∀ p : Addr × Obj, _ ∈ _ → @LT.lt Nat _ _ _) => zl1; k_lt zl1))); (all_goals (try contradiction)))) | ((with_reducible show wpAny _ _ (call (Value.ref 150) _) _ _ _); k_dflt (refine' CallsTo.use (sf_call _ _ _ _ _ _ _ _ _) ?z1 ?z2 ?z3 ?z4 ?z5 ?zK ?zd ?zu ?_; (case z1 | z2 | z3 | z4 | z5 => k_asm); (case zK => first | exact rfl | assumption); (case zd => first | exact room_d (by assumption) (by exact rfl) | exact room_e (by assumption) (by exact rfl) | ktr_room); (case zu => first | exact room_u (by assumption) (by exact rfl) | exact room_v (by assumption) (by exact rfl) | exact room_x (by assumption) (by exact rfl) | exact room_w (by assumption) (by exact rfl) | exact room_y (by assumption) (by exact rfl) | ktr_units); intro e' t' oe' h' tk' hX' hg' hc' hd' hM'; (try dsimp only))) | ((with_reducible show wpAny _ _ (exec (Stmt.Raise _ _ _) _) _ _ _); k_dflt (refine' raise150 ?h ?_; (case h => exact rfl); (try k_fold))) | ((with_reducible show Exists _); (rename MadeF _ _ _ _ _ _ _ _ _ => hM9); refine ⟨_, _, _, rfl, by assumption, by assumption, by assumption, by assumption, ?_⟩) | ((with_reducible show wpAny _ _ (leaving _ (Value.ref _)) _ _ _); (k_dflt first | (refine' leave_newF (hk := by rfl) ?k1 ?k2 ?_; (case k2 => assumption); (case k1 => assumption); k_whole; intro h' R' U'; (try dsimp only at R' U' ⊢)) | (refine' leave_onF ?k1 ?k2 ?k3 ?k4 ?_; (case k3 => assumption); (case k1 => assumption); (case k2 => assumption); (case k4 => assumption); k_whole; intro h' R' U'; (try dsimp only at R' U' ⊢)))) | ((with_reducible show wpAny _ _ (subscriptTail _ _ (Value.str _ _) (Value.int _ _)) _ _ _); (k_dflt (refine' item_at ?hs ?h2 ?_ (by with_unfolding_all rfl) (by intro _; with_unfolding_all rfl); (case hs => omega); (case h2 => omega); (try dsimp only))))); k_steps)))
  all_goals (dsimp only at hp1 hp2 hp3)
  all_goals (dsimp only [RetV] at hret)
  · rename isSp _ = true => hh
    exact wk_end (σ := Nat × CTok) ⟨p + 1, _⟩ (by assumption) (by assumption) ⟨by dsimp only; omega, by dsimp only; omega, fun i a b => (Nat.lt_or_ge i p).elim (fun q => hp3 i a q) fun q => by rw [show i = p by dsimp only at b; omega]; exact hh⟩ (by dsimp only; omega)
  · rename isSp _ = false => hh
    exact retB (hret p ⟨hp1, hp2, hp3, fun _ => hh⟩ _ _) (congrArg (fun z => Value.int z _) (by omega)) (by assumption) (by assumption)
  · exact retB (hret p ⟨hp1, hp2, hp3, fun q => absurd q (by omega)⟩ _ _) (congrArg (fun z => Value.int z _) (by omega)) (by assumption) (by assumption)
end Mine
end -- P3
section -- P4
namespace Mine
set_option maxHeartbeats 8000000 in
theorem need_spaces_spec (w mean mg mb) (T : Str) (k : Nat) (hT : T.length ≤ 1000) (hk : k ≤ T.length) : CM w mean mg mb 6 394 T k [] fun R X => ∀ j, Sps T k j → (k < j → R (.val .none) j) ∧ (j = k → X j j) := by
  refine CM.of ?_ (by intro R R' X X' hR hX h; exact fun j q => ⟨fun z => hR _ _ ((h j q).1 z), fun z => hX _ _ ((h j q).2 z)⟩)
  unfold CM0 CallsTo
  intros
  rename_i hret
  refine wpAny_call ?_
  k_dflt (refine' code_def ?k1 ?k2 ?k3 ?k4 ?k5 ?kA ?kF ?kK ?k6 ?k7 ?k8 ?k9 ?kB ?_ ?c2 ?c3 ?c4 ?c5; (case kA | kF => exact rfl); (case kK => first | exact rfl | assumption); (case k1 | k2 | k3 | k4 | k5 => k_asm); (case k6 | k7 => k_is); (case k8 => first | exact room_0 (by assumption) | ktr_room); (case k9 => first | exact BindsTo.of_eq rfl | exact binds_K (by k_in) rfl (by k_is) rfl rfl rfl); (case c5 => decide); (case kB => exact locs rfl); (case c2 | c3 | c4 => exact rfl); k_whole; intro g' L' h' FG' F' N' B' X' T'; (try dsimp only); (try k_fold))
  (k_steps; (try repeat' ((with_reducible refine Stop.by ?_); (first | ((first | (with_reducible show wpAny _ _ (call (Value.ref 387) _) _ _ _) | (with_reducible show wpAny _ _ (call (Value.ref 344) _) _ _ _)); k_dflt (refine' CM.useI ?zs ?z1 ?z2 ?z3 ?z4 ?z5 ?zK ?zd ?zu ?zc ?zU ?ze ?_; (case z1 | z2 | z3 | z4 | z5 => k_asm); (case zK => first | exact rfl | assumption); (case zc => k_mem); (case zU => k_updF); (case ze => first | with_reducible exact rfl | with_reducible exact ca1 _ | with_reducible exact caN _ _ | exact ca0); (case zs => first | exact (spaces_spec _ _ _ _ _ _ (by walk_at "zz side") (by walk_at "zz side")) | exact (fault_spec _ _ _ _ _ _ _ _)); (case zd => first | exact room_d (by assumption) (by exact rfl) | exact room_e (by assumption) (by exact rfl) | ktr_room); (case zu => first | exact room_u (by assumption) (by exact rfl) | exact room_v (by assumption) (by exact rfl) | exact room_x (by assumption) (by exact rfl) | exact room_w (by assumption) (by exact rfl) | exact room_y (by assumption) (by exact rfl) | ktr_units); (try dsimp only [RetV, len_0, len_1, len_2, len_3, len_4, len_5, len_6, len_7, len_8, len_9, len_10, len_11, len_12, len_13, len_14, len_15, len_16, len_17, len_18]); (with_reducible (repeat' (first | (refine And.intro ?_ ?_) | intro))); (all_goals (try dsimp only)); (all_goals (try (rename (∀ p : Addr × Obj, _ ∈ _ → @LT.lt Nat _ _ _) => zl1; k_lt zl1))); (all_goals (try contradiction)))) | ((with_reducible show wpAny _ _ (call (Value.ref 150) _) _ _ _); k_dflt (refine' CallsTo.use (sf_call _ _ _ _ _ _ _ _ _) ?z1 ?z2 ?z3 ?z4 ?z5 ?zK ?zd ?zu ?_; (case z1 | z2 | z3 | z4 | z5 => k_asm); (case zK => first | exact rfl | assumption); (case zd => first | exact room_d (by assumption) (by exact rfl) | exact room_e (by assumption) (by exact rfl) | ktr_room); (case zu => first | exact room_u (by assumption) (by exact rfl) | exact room_v (by assumption) (by exact rfl) | exact room_x (by assumption) (by exact rfl) | exact room_w (by assumption) (by exact rfl) | exact room_y (by assumption) (by exact rfl) | ktr_units); intro e' t' oe' h' tk' hX' hg' hc' hd' hM'; (try dsimp only))) | ((with_reducible show wpAny _ _ (exec (Stmt.Raise _ _ _) _) _ _ _); k_dflt (refine' raise150 ?h ?_; (case h => exact rfl); (try k_fold))) | ((with_reducible show Exists _); (rename MadeF _ _ _ _ _ _ _ _ _ => hM9); refine ⟨_, _, _, rfl, by assumption, by assumption, by assumption, by assumption, ?_⟩) | ((with_reducible show wpAny _ _ (leaving _ (Value.ref _)) _ _ _); (k_dflt first | (refine' leave_newF (hk := by rfl) ?k1 ?k2 ?_; (case k2 => assumption); (case k1 => assumption); k_whole; intro h' R' U'; (try dsimp only at R' U' ⊢)) | (refine' leave_onF ?k1 ?k2 ?k3 ?k4 ?_; (case k3 => assumption); (case k1 => assumption); (case k2 => assumption); (case k4 => assumption); k_whole; intro h' R' U'; (try dsimp only at R' U' ⊢))))); k_steps)))
  all_goals (dsimp only [RetV] at hret)
  all_goals (rename Sps _ _ _ => hs)
  · (refine' excB ((hret _ hs).2 ?q _) ?R rfl ?U ?F; (case q => have := hs.1; omega); (case R => assumption); (case U => assumption); (case F => assumption))
  · exact (hret _ hs).1 (by have := hs.1; omega) _ _ _ (by assumption) (by assumption)
set_option maxHeartbeats 8000000 in
theorem name_spec (w mean mg mb) (T : Str) (k : Nat) (hT : T.length ≤ 1000) (hk : k + 1 < T.length) (h0 : ch T k < 128) (h1 : isNs (ch T k) = true) (h2 : ch T (k + 1) < 128) (h3 : isNc (ch T (k + 1)) = false) : CM w mean mg mb 4 401 T k [] fun R X => ∀ t, R (.val (.str ⟨#[ch T k]⟩ t)) (k + 1) := by
  refine CM.of ?_ (by intro R R' X X' hR hX h; exact fun t => hR _ _ (h t))
  unfold CM0 CallsTo
  intros
  rename_i hret
  refine wpAny_call ?_
  k_dflt (refine' code_def ?k1 ?k2 ?k3 ?k4 ?k5 ?kA ?kF ?kK ?k6 ?k7 ?k8 ?k9 ?kB ?_ ?c2 ?c3 ?c4 ?c5; (case kA | kF => exact rfl); (case kK => first | exact rfl | assumption); (case k1 | k2 | k3 | k4 | k5 => k_asm); (case k6 | k7 => k_is); (case k8 => first | exact room_0 (by assumption) | ktr_room); (case k9 => first | exact BindsTo.of_eq rfl | exact binds_K (by k_in) rfl (by k_is) rfl rfl rfl); (case c5 => decide); (case kB => exact locs rfl); (case c2 | c3 | c4 => exact rfl); k_whole; intro g' L' h' FG' F' N' B' X' T'; (try dsimp only); (try k_fold))
  (k_steps; (try repeat' ((with_reducible refine Stop.by ?_); (first | ((with_reducible show wpAny _ _ (call (Value.ref 322) _) _ _ _); k_dflt (refine' CM.useI ?zs ?z1 ?z2 ?z3 ?z4 ?z5 ?zK ?zd ?zu ?zc ?zU ?ze ?_; (case z1 | z2 | z3 | z4 | z5 => k_asm); (case zK => first | exact rfl | assumption); (case zc => k_mem); (case zU => k_updF); (case ze => first | with_reducible exact rfl | with_reducible exact ca1 _ | with_reducible exact caN _ _ | exact ca0); (case zs => exact (is_over_spec _ _ _ _ _ _ (by walk_at "zz side"))); (case zd => first | exact room_d (by assumption) (by exact rfl) | exact room_e (by assumption) (by exact rfl) | ktr_room); (case zu => first | exact room_u (by assumption) (by exact rfl) | exact room_v (by assumption) (by exact rfl) | exact room_x (by assumption) (by exact rfl) | exact room_w (by assumption) (by exact rfl) | exact room_y (by assumption) (by exact rfl) | ktr_units); (try dsimp only [RetV, len_0, len_1, len_2, len_3, len_4, len_5, len_6, len_7, len_8, len_9, len_10, len_11, len_12, len_13, len_14, len_15, len_16, len_17, len_18]); (with_reducible (repeat' (first | (refine And.intro ?_ ?_) | intro))); (all_goals (try dsimp only)); (all_goals (try (rename (∀ p : Addr × Obj, _ ∈ _ → @LT.lt Nat _ _ _) => zl1; k_lt zl1))); (all_goals (try contradiction)))) | ((first | (with_reducible show wpAny _ _ (call (Value.ref 84) _) _ _ _) | (with_reducible show wpAny _ _ (call (Value.ref 77) _) _ _ _)); k_dflt (refine' CallsTo.use ?zs ?z1 ?z2 ?z3 ?z4 ?z5 ?zK ?zd ?zu ?_; (case z1 | z2 | z3 | z4 | z5 => k_asm); (case zK => first | exact rfl | assumption); (case zs => first | exact (PM.use (is_nc1 _ _ _ _ _ _ (by walk_at "zz side")) _) | exact (PM.use (is_ns1 _ _ _ _ _ _ (by walk_at "zz side")) _)); (case zd => first | exact room_d (by assumption) (by exact rfl) | exact room_e (by assumption) (by exact rfl) | ktr_room); (case zu => first | exact room_u (by assumption) (by exact rfl) | exact room_v (by assumption) (by exact rfl) | exact room_x (by assumption) (by exact rfl) | exact room_w (by assumption) (by exact rfl) | exact room_y (by assumption) (by exact rfl) | ktr_units); (try dsimp only [RetV, len_0, len_1, len_2, len_3, len_4, len_5, len_6, len_7, len_8, len_9, len_10, len_11, len_12, len_13, len_14, len_15, len_16, len_17, len_18]); (with_reducible (repeat' (first | (refine And.intro ?_ ?_) | intro))); (all_goals (try dsimp only)); (all_goals (try (rename (∀ p : Addr × Obj, _ ∈ _ → @LT.lt Nat _ _ _) => zl1; k_lt zl1))); (all_goals (try contradiction)))) | ((with_reducible show wpAny _ _ (call (Value.ref 150) _) _ _ _); k_dflt (refine' CallsTo.use (sf_call _ _ _ _ _ _ _ _ _) ?z1 ?z2 ?z3 ?z4 ?z5 ?zK ?zd ?zu ?_; (case z1 | z2 | z3 | z4 | z5 => k_asm); (case zK => first | exact rfl | assumption); (case zd => first | exact room_d (by assumption) (by exact rfl) | exact room_e (by assumption) (by exact rfl) | ktr_room); (case zu => first | exact room_u (by assumption) (by exact rfl) | exact room_v (by assumption) (by exact rfl) | exact room_x (by assumption) (by exact rfl) | exact room_w (by assumption) (by exact rfl) | exact room_y (by assumption) (by exact rfl) | ktr_units); intro e' t' oe' h' tk' hX' hg' hc' hd' hM'; (try dsimp only))) | ((with_reducible show wpAny _ _ (exec (Stmt.Raise _ _ _) _) _ _ _); k_dflt (refine' raise150 ?h ?_; (case h => exact rfl); (try k_fold))) | ((with_reducible show Exists _); (rename MadeF _ _ _ _ _ _ _ _ _ => hM9); refine ⟨_, _, _, rfl, by assumption, by assumption, by assumption, by assumption, ?_⟩) | ((with_reducible show wpAny _ _ (leaving _ (Value.ref _)) _ _ _); (k_dflt first | (refine' leave_newF (hk := by rfl) ?k1 ?k2 ?_; (case k2 => assumption); (case k1 => assumption); k_whole; intro h' R' U'; (try dsimp only at R' U' ⊢)) | (refine' leave_onF ?k1 ?k2 ?k3 ?k4 ?_; (case k3 => assumption); (case k1 => assumption); (case k2 => assumption); (case k4 => assumption); k_whole; intro h' R' U'; (try dsimp only at R' U' ⊢)))) | ((with_reducible show wpAny _ _ (subscriptTail _ _ (Value.str _ _) (Value.int _ _)) _ _ _); (k_dflt (refine' item_at ?hs ?h2 ?_ (by with_unfolding_all rfl) (by intro _; with_unfolding_all rfl); (case hs => omega); (case h2 => omega); (try dsimp only))))); k_steps)))
  refine Stop.by ?_
  rename Fr _ _ _ _ => lF
  rename News _ _ _ _ => lN
  refine whl_keep (hE := by passes_own) (σ := CTok) (fun c => [(_, instObj 418 _), (_, curD w.params _ T _ _ (k + 1 : Nat) c)] ++ _) (fun c => True) (fun c => 0) _ lF lN trivial ?_
  rintro tp h tk - cF cN
  clear lF lN
  (try dsimp only at cN)
  (k_steps; (try repeat' ((with_reducible refine Stop.by ?_); (first | ((with_reducible show wpAny _ _ (call (Value.ref 84) _) _ _ _); k_dflt (refine' CallsTo.use ?zs ?z1 ?z2 ?z3 ?z4 ?z5 ?zK ?zd ?zu ?_; (case z1 | z2 | z3 | z4 | z5 => k_asm); (case zK => first | exact rfl | assumption); (case zs => exact (PM.use (is_nc1 _ _ _ _ _ _ (by walk_at "zz side")) _)); (case zd => first | exact room_d (by assumption) (by exact rfl) | exact room_e (by assumption) (by exact rfl) | ktr_room); (case zu => first | exact room_u (by assumption) (by exact rfl) | exact room_v (by assumption) (by exact rfl) | exact room_x (by assumption) (by exact rfl) | exact room_w (by assumption) (by exact rfl) | exact room_y (by assumption) (by exact rfl) | ktr_units); (try dsimp only [RetV, len_0, len_1, len_2, len_3, len_4, len_5, len_6, len_7, len_8, len_9, len_10, len_11, len_12, len_13, len_14, len_15, len_16, len_17, len_18]); (with_reducible (repeat' (first | (refine And.intro ?_ ?_) | intro))); (all_goals (try dsimp only)); (all_goals (try (rename (∀ p : Addr × Obj, _ ∈ _ → @LT.lt Nat _ _ _) => zl1; k_lt zl1))); (all_goals (try contradiction)))) | ((with_reducible show wpAny _ _ (call (Value.ref 150) _) _ _ _); k_dflt (refine' CallsTo.use (sf_call _ _ _ _ _ _ _ _ _) ?z1 ?z2 ?z3 ?z4 ?z5 ?zK ?zd ?zu ?_; (case z1 | z2 | z3 | z4 | z5 => k_asm); (case zK => first | exact rfl | assumption); (case zd => first | exact room_d (by assumption) (by exact rfl) | exact room_e (by assumption) (by exact rfl) | ktr_room); (case zu => first | exact room_u (by assumption) (by exact rfl) | exact room_v (by assumption) (by exact rfl) | exact room_x (by assumption) (by exact rfl) | exact room_w (by assumption) (by exact rfl) | exact room_y (by assumption) (by exact rfl) | ktr_units); intro e' t' oe' h' tk' hX' hg' hc' hd' hM'; (try dsimp only))) | ((with_reducible show wpAny _ _ (exec (Stmt.Raise _ _ _) _) _ _ _); k_dflt (refine' raise150 ?h ?_; (case h => exact rfl); (try k_fold))) | ((with_reducible show Exists _); (rename MadeF _ _ _ _ _ _ _ _ _ => hM9); refine ⟨_, _, _, rfl, by assumption, by assumption, by assumption, by assumption, ?_⟩) | ((with_reducible show wpAny _ _ (leaving _ (Value.ref _)) _ _ _); (k_dflt first | (refine' leave_newF (hk := by rfl) ?k1 ?k2 ?_; (case k2 => assumption); (case k1 => assumption); k_whole; intro h' R' U'; (try dsimp only at R' U' ⊢)) | (refine' leave_onF ?k1 ?k2 ?k3 ?k4 ?_; (case k3 => assumption); (case k1 => assumption); (case k2 => assumption); (case k4 => assumption); k_whole; intro h' R' U'; (try dsimp only at R' U' ⊢)))) | ((with_reducible show wpAny _ _ (subscriptTail _ _ (Value.str _ _) (Value.int _ _)) _ _ _); (k_dflt (refine' item_at ?hs ?h2 ?_ (by with_unfolding_all rfl) (by intro _; with_unfolding_all rfl); (case hs => omega); (case h2 => omega); (try dsimp only))))); k_steps)))
  dsimp only [RetV] at hret
  have es : Txt.slice T (some ↑k) (some ((k + 1 : Nat) : Int)) = ⟨#[ch T k]⟩ := (slice_nat T (Nat.le_succ k) (by omega)).trans (peek1 (by omega))
  exact retB (hret _ _) (congrArg (fun x => Value.str x _) es) (by assumption) (by assumption)
theorem peekq_spec (w mean mg mb) (T : Str) (k q : Nat) (hT : T.length ≤ 1000) (hk : k < T.length) (hq : ch T k = q) : CM w mean mg mb 1 330 T k [] fun R X => ∀ t, R (.val (.str ⟨#[q]⟩ t)) k :=
  CM.imp (peek_spec w mean mg mb T k hT (Nat.le_of_lt hk)) fun R X h S t h1 _ => by rw [h1 hk, hq]; exact h t
set_option maxHeartbeats 8000000 in
theorem quoted_spec (w mean mg mb) (T : Str) (k q : Nat) (hT : T.length ≤ 1000) (hk : k < T.length) (hq : ch T k = q) (hqq : q = 34 ∨ q = 39) : CM w mean mg mb 7 408 T k [] fun R X => ∀ r, Fst T ⟨#[q]⟩ (k + 1) r → (∀ j, r = some j → ∀ t t', R (.tup [.str (sub T (k + 1) j) t, .int (k + 1 : Nat) t']) (j + 1)) ∧ (r = none → X (k + 1) (k + 1)) := by
  rcases hqq with rfl | rfl
  all_goals refine CM.of ?_ (by intro R R' X X' hR hX h; exact fun r hr => ⟨fun j q t t' => hR _ _ ((h r hr).1 j q t t'), fun q => hX _ _ ((h r hr).2 q)⟩)
  all_goals unfold CM0 CallsTo
  all_goals intros
  all_goals rename_i hret
  all_goals refine wpAny_call ?_
  all_goals k_dflt (refine' code_def ?k1 ?k2 ?k3 ?k4 ?k5 ?kA ?kF ?kK ?k6 ?k7 ?k8 ?k9 ?kB ?_ ?c2 ?c3 ?c4 ?c5; (case kA | kF => exact rfl); (case kK => first | exact rfl | assumption); (case k1 | k2 | k3 | k4 | k5 => k_asm); (case k6 | k7 => k_is); (case k8 => first | exact room_0 (by assumption) | ktr_room); (case k9 => first | exact BindsTo.of_eq rfl | exact binds_K (by k_in) rfl (by k_is) rfl rfl rfl); (case c5 => decide); (case kB => exact locs rfl); (case c2 | c3 | c4 => exact rfl); k_whole; intro g' L' h' FG' F' N' B' X' T'; (try dsimp only); (try k_fold))
  all_goals (k_steps; (try repeat' ((with_reducible refine Stop.by ?_); (first | ((first | (with_reducible show wpAny _ _ (call (Value.ref 373) _) _ _ _) | (with_reducible show wpAny _ _ (call (Value.ref 330) _) _ _ _)); k_dflt (refine' CM.useI ?zs ?z1 ?z2 ?z3 ?z4 ?z5 ?zK ?zd ?zu ?zc ?zU ?ze ?_; (case z1 | z2 | z3 | z4 | z5 => k_asm); (case zK => first | exact rfl | assumption); (case zc => k_mem); (case zU => k_updF); (case ze => first | with_reducible exact rfl | with_reducible exact ca1 _ | with_reducible exact caN _ _ | exact ca0); (case zs => first | exact (until_spec _ _ _ _ _ _ (by walk_at "zz side") (by walk_at "zz side") _ _ (by walk_at "zz side")) | exact (peekq_spec _ _ _ _ _ _ _ (by walk_at "zz side") (by walk_at "zz side") (by walk_at "zz side"))); (case zd => first | exact room_d (by assumption) (by exact rfl) | exact room_e (by assumption) (by exact rfl) | ktr_room); (case zu => first | exact room_u (by assumption) (by exact rfl) | exact room_v (by assumption) (by exact rfl) | exact room_x (by assumption) (by exact rfl) | exact room_w (by assumption) (by exact rfl) | exact room_y (by assumption) (by exact rfl) | ktr_units); (try dsimp only [RetV, len_0, len_1, len_2, len_3, len_4, len_5, len_6, len_7, len_8, len_9, len_10, len_11, len_12, len_13, len_14, len_15, len_16, len_17, len_18]); (with_reducible (repeat' (first | (refine And.intro ?_ ?_) | intro))); (all_goals (try dsimp only)); (all_goals (try (rename (∀ p : Addr × Obj, _ ∈ _ → @LT.lt Nat _ _ _) => zl1; k_lt zl1))); (all_goals (try contradiction)))) | ((with_reducible show wpAny _ _ (call (Value.ref 150) _) _ _ _); k_dflt (refine' CallsTo.use (sf_call _ _ _ _ _ _ _ _ _) ?z1 ?z2 ?z3 ?z4 ?z5 ?zK ?zd ?zu ?_; (case z1 | z2 | z3 | z4 | z5 => k_asm); (case zK => first | exact rfl | assumption); (case zd => first | exact room_d (by assumption) (by exact rfl) | exact room_e (by assumption) (by exact rfl) | ktr_room); (case zu => first | exact room_u (by assumption) (by exact rfl) | exact room_v (by assumption) (by exact rfl) | exact room_x (by assumption) (by exact rfl) | exact room_w (by assumption) (by exact rfl) | exact room_y (by assumption) (by exact rfl) | ktr_units); intro e' t' oe' h' tk' hX' hg' hc' hd' hM'; (try dsimp only))) | ((with_reducible show wpAny _ _ (exec (Stmt.Raise _ _ _) _) _ _ _); k_dflt (refine' raise150 ?h ?_; (case h => exact rfl); (try k_fold))) | ((with_reducible show Exists _); (rename MadeF _ _ _ _ _ _ _ _ _ => hM9); refine ⟨_, _, _, rfl, by assumption, by assumption, by assumption, by assumption, ?_⟩) | ((with_reducible show wpAny _ _ (leaving _ (Value.ref _)) _ _ _); (k_dflt first | (refine' leave_newF (hk := by rfl) ?k1 ?k2 ?_; (case k2 => assumption); (case k1 => assumption); k_whole; intro h' R' U'; (try dsimp only at R' U' ⊢)) | (refine' leave_onF ?k1 ?k2 ?k3 ?k4 ?_; (case k3 => assumption); (case k1 => assumption); (case k2 => assumption); (case k4 => assumption); k_whole; intro h' R' U'; (try dsimp only at R' U' ⊢))))); k_steps)))
  all_goals (dsimp only [RetV] at hret; rename Fst _ _ _ _ => hF)
  · (refine' excB ((hret _ (by rw [← show Str.ofString "\"" = ⟨#[34]⟩ by decide +kernel]; exact hF)).2 (by assumption) _) ?R rfl ?U ?F; (case R => assumption); (case U => assumption); (case F => assumption))
  · rename News _ _ _ _ => nn
    rename _ ∧ _ ∧ AllLt _ _ => l9
    exact (hret _ (by rw [← show Str.ofString "\"" = ⟨#[34]⟩ by decide +kernel]; exact hF)).1 _ (by assumption) _ _ _ _ (fun p hp => kst_ltOf (l := (_, _) :: (_, _) :: _) l9 p hp) _ _ (by assumption) nn
  · (refine' excB ((hret _ (by rw [← show Str.ofString "'" = ⟨#[39]⟩ by decide +kernel]; exact hF)).2 (by assumption) _) ?R rfl ?U ?F; (case R => assumption); (case U => assumption); (case F => assumption))
  · rename News _ _ _ _ => nn
    rename _ ∧ _ ∧ AllLt _ _ => l9
    exact (hret _ (by rw [← show Str.ofString "'" = ⟨#[39]⟩ by decide +kernel]; exact hF)).1 _ (by assumption) _ _ _ _ (fun p hp => kst_ltOf (l := (_, _) :: (_, _) :: _) l9 p hp) _ _ (by assumption) nn
end Mine
end -- P4
section -- P5
namespace Mine
theorem sub_le (T : Str) (a b : Nat) {n : Nat} (hT : T.length ≤ n) : (sub T a b).length ≤ n := by
  refine Nat.le_trans ?_ hT
  show ((T.cps.toList.drop a).take (b - a)).toArray.size ≤ T.cps.size
  simp only [List.size_toArray, List.length_take, List.length_drop, Array.length_toList]
  (first | lia | omega)
theorem range_size0 (n : Nat) : Builtin.Range.rangeSize 0 (n : Int) 1 = (n : Int) := by
  rw [rangeSize_nat]
  (first | lia | omega)
theorem range_small0 (n : Nat) (hn : n ≤ 1000000) : Builtin.Range.small 0 (n : Int) 1 = true := by
  unfold Builtin.Range.small
  rw [range_size0]
  have h1 : Builtin.Range.rangeFitsLong (n : Int) = true := by
    unfold Builtin.Range.rangeFitsLong
    simp only [Bool.and_eq_true, decide_eq_true_eq]
    (first | lia | omega)
  have h2 : Builtin.Range.rangeFitsLong 0 = true := by decide +kernel
  have h3 : Builtin.Range.rangeFitsLong 1 = true := by decide +kernel
  simp [h1, h2, h3]
section
variable {prog : Program} {w : World} {A : Around} {E : Value → Shared → Prop} {s : Shared} {env : Env} {h₀ : Heap} {x : Str} {body : List Stmt} {Q : Flow → Shared → Prop}
/-- a for over range(n), with an invariant of the frame's map and the ledger -/
theorem iter_rg {r : Addr} {a₀ b₀ : Int} {t₀ u₀ v₀ : Tok} (n : Nat) {m₀ : Str → Option Value} {news : List (Addr × Obj)} (J : Nat → (Str → Option Value) → List (Addr × Obj) → Prop) (hh : A.handled = none) (hr : IsRange s.heap r a₀ b₀ 1 t₀ u₀ v₀) (ha : a₀ = 0) (hb : b₀ = (n : Int)) (hn : n ≤ 1000000)
    (F : Fr h₀ env.locals s.heap m₀) (N : News h₀ env.locals s.heap news) (hJ : J 0 m₀ news)
    (turn : ∀ (i : Nat) t h tk own m nx, i < n → OwnOff own (news.map (·.1)) → J i m nx → Fr h₀ env.locals h (fun y => if y = x then some (.int (i : Int) t) else m y) → News h₀ env.locals h (nx ++ own) →
      wpAny (model prog w) A (execs body env) (InvPostN h₀ env.locals (J (i + 1)) own (news.map (·.1)) { s with heap := h, toks := tk } Q) E { s with heap := h, toks := tk })
    (done : ∀ m nx h tk, J n m nx → Fr h₀ env.locals h m → News h₀ env.locals h nx → Q .next { s with heap := h, toks := tk }) :
    wpAny (model prog w) A (pyIter (.ref r)) (fun it s₂ => LoopAtV prog w A h₀ env x body Q E it s₂) E s := by
  subst ha hb
  refine wpAny_pyIter_range hr (range_small0 n hn) ?_
  have nI : ∀ q ∈ news, q.1 ∉ [s.heap.objs.size] := fun q hq hI => absurd (Heap.lt_size (N q hq).1) ((List.mem_singleton.mp hI) ▸ Nat.lt_irrefl _)
  refine loop_invN J (Walks.range hh _ 0 1 n) (fun hm => absurd F.ns.lt ((List.mem_singleton.mp hm) ▸ Nat.lt_irrefl _)) (fun b hb => List.mem_singleton.mp hb ▸ next_is_new F) nI nI
    (by show IsRangeIter _ _ _ _ _; rw [range_size0]; simpa using Heap.get?_push_size _ rfl) (F.push _) (fun p hp => ⟨Heap.get?_push_of_some _ (N p hp).1, (N p hp).2⟩) hJ ?_ done
  rintro i v m₁ nx h tk own hin ⟨t, rfl⟩ - ho hJ F' N'
  rw [Int.zero_add, Int.mul_one] at F'
  exact turn i t h tk own m₁ nx hin ho hJ F' N'
noncomputable def IxJ (x : Str) (m₀ : Str → Option Value) (news : List (Addr × Obj)) (P : Prop) (m : Str → Option Value) (nx : List (Addr × Obj)) : Prop := nx = news ∧ (∀ z, z ≠ x → m z = m₀ z) ∧ P
noncomputable abbrev IxPost (h₀ : Heap) (L : Addr) (x : Str) (m₀ : Str → Option Value) (news own : List (Addr × Obj)) (P : Prop) (s₁ : Shared) (Q : Flow → Shared → Prop) : Flow → Shared → Prop :=
  InvPostN h₀ L (IxJ x m₀ news P) own (news.map (·.1)) s₁ Q
theorem ix_end {L : Addr} {m₀ : Str → Option Value} {news own nx : List (Addr × Obj)} {P : Prop} {s₁ : Shared} {Q : Flow → Shared → Prop} {h' : Heap} {tk : Nat} {m' : Str → Option Value} (F : Fr h₀ L h' m') (N : News h₀ L h' nx) (hs : ∀ p ∈ news ++ own, p ∈ nx) (hm : ∀ z, z ≠ x → m' z = m₀ z) (hp : P) :
    IxPost h₀ L x m₀ news own P s₁ Q .next { s₁ with heap := h', toks := tk } := ⟨h', tk, m', nx, news, rfl, F, N, fun p hp => hs p (List.mem_append_left _ hp), fun p hp => hs p (List.mem_append_right _ hp), rfl, rfl, hm, hp⟩
/-- a for over range(n) whose body stores nothing but the loop's own name -/
theorem iter_ix {r : Addr} {a₀ b₀ : Int} {t₀ u₀ v₀ : Tok} (n : Nat) {m₀ : Str → Option Value} {news : List (Addr × Obj)} (P : Nat → Prop) (hh : A.handled = none) (hr : IsRange s.heap r a₀ b₀ 1 t₀ u₀ v₀) (ha : a₀ = 0) (hb : b₀ = (n : Int)) (hn : n ≤ 1000000)
    (F : Fr h₀ env.locals s.heap m₀) (N : News h₀ env.locals s.heap news) (hP : P 0)
    (turn : ∀ (i : Nat) t h tk own, i < n → OwnOff own (news.map (·.1)) → P i → Fr h₀ env.locals h (fun y => if y = x then some (.int (i : Int) t) else m₀ y) → News h₀ env.locals h (news ++ own) →
      wpAny (model prog w) A (execs body env) (IxPost h₀ env.locals x m₀ news own (P (i + 1)) { s with heap := h, toks := tk } Q) E { s with heap := h, toks := tk })
    (done : ∀ (u : Option Value) h tk, P n → Fr h₀ env.locals h (fun y => if y = x then u else m₀ y) → News h₀ env.locals h news → Q .next { s with heap := h, toks := tk }) :
    wpAny (model prog w) A (pyIter (.ref r)) (fun it s₂ => LoopAtV prog w A h₀ env x body Q E it s₂) E s := by
  have eq : ∀ {m : Str → Option Value} (u : Option Value), (∀ z, z ≠ x → m z = m₀ z) → (fun y => if y = x then u else m y) = fun y => if y = x then u else m₀ y := fun u hm => funext fun y => ite_congr rfl (fun _ => rfl) fun h => hm y h
  refine iter_rg n (fun i => IxJ x m₀ news (P i)) hh hr ha hb hn F N ⟨rfl, fun _ _ => rfl, hP⟩ ?_ ?_
  · rintro i t h tk own m nx hin ho ⟨rfl, r⟩ F' N'
    exact turn i t h tk own hin ho r.2 (eq _ r.1 ▸ F') N'
  · rintro m nx h tk ⟨rfl, r⟩ F' N'
    exact done (m x) h tk r.2 (((funext fun y => (ite_eq_right_iff.mpr fun e => e ▸ rfl).symm : m = fun y => if y = x then m x else m y).trans (eq (m x) r.1)) ▸ F') N'
end

local macro_rules | `(tactic| walk_at "pyIter ref") => `(tactic| (k_here; (with_reducible show wpAny _ _ (pyIter (Value.ref _)) (fun it s₂ => LoopAtV _ _ _ _ _ _ _ _ _ it s₂) _ _); refine Stop.at ?_))
/-- the first sign of S that no document has stands at i -/
noncomputable def BadAt (S : Str) : Option Nat → Prop
  | none => ∀ i, i < S.length → isCh (ch S i) = true
  | some i => i < S.length ∧ isCh (ch S i) = false ∧ ∀ v, v < i → isCh (ch S v) = true
theorem BadAt.only {S : Str} {a b : Option Nat} (h : BadAt S a) (h' : BadAt S b) : a = b := by
  cases a with
  | none =>
    cases b with
    | none => rfl
    | some j => exact absurd (h j h'.1) (by rw [h'.2.1]; decide)
  | some i =>
    cases b with
    | none => exact absurd (h' i h.1) (by rw [h.2.1]; decide)
    | some j =>
      rcases Nat.lt_trichotomy i j with q | q | q
      · exact absurd (h'.2.2 i q) (by rw [h.2.1]; decide)
      · rw [q]
      · exact absurd (h.2.2 j q) (by rw [h'.2.1]; decide)
set_option maxHeartbeats 8000000 in
theorem check_spec (w mean mg mb) (S : Str) (ts : CTok) (p : Nat) (tp : CTok) (hS : S.length ≤ 1000) : PM w mean mg mb 6 183 [.str S ts, .int p tp] fun R X => ∀ b, BadAt S b → (b = none → R .none) ∧ (∀ i, b = some i → X (p + i : Nat)) := by
  unfold PM CallsTo
  intros
  rename_i hret
  refine wpAny_call ?_
  k_dflt (refine' code_def ?k1 ?k2 ?k3 ?k4 ?k5 ?kA ?kF ?kK ?k6 ?k7 ?k8 ?k9 ?kB ?_ ?c2 ?c3 ?c4 ?c5; (case kA | kF => exact rfl); (case kK => first | exact rfl | assumption); (case k1 | k2 | k3 | k4 | k5 => k_asm); (case k6 | k7 => k_is); (case k8 => first | exact room_0 (by assumption) | ktr_room); (case k9 => first | exact BindsTo.of_eq rfl | exact binds_K (by k_in) rfl (by k_is) rfl rfl rfl); (case c5 => decide); (case kB => exact locs rfl); (case c2 | c3 | c4 => exact rfl); k_whole; intro g' L' h' FG' F' N' B' X' T'; (try dsimp only); (try k_fold))
  (k_steps; (try repeat' ((with_reducible refine Stop.by ?_); (first | ((with_reducible show wpAny _ _ (call (Value.ref 150) _) _ _ _); k_dflt (refine' CallsTo.use (sf_call _ _ _ _ _ _ _ _ _) ?z1 ?z2 ?z3 ?z4 ?z5 ?zK ?zd ?zu ?_; (case z1 | z2 | z3 | z4 | z5 => k_asm); (case zK => first | exact rfl | assumption); (case zd => first | exact room_d (by assumption) (by exact rfl) | exact room_e (by assumption) (by exact rfl) | ktr_room); (case zu => first | exact room_u (by assumption) (by exact rfl) | exact room_v (by assumption) (by exact rfl) | exact room_x (by assumption) (by exact rfl) | exact room_w (by assumption) (by exact rfl) | exact room_y (by assumption) (by exact rfl) | ktr_units); intro e' t' oe' h' tk' hX' hg' hc' hd' hM'; (try dsimp only))) | ((with_reducible show wpAny _ _ (exec (Stmt.Raise _ _ _) _) _ _ _); k_dflt (refine' raise150 ?h ?_; (case h => exact rfl); (try k_fold))) | ((with_reducible show Exists _); (rename MadeF _ _ _ _ _ _ _ _ _ => hM9); refine ⟨_, _, _, rfl, by assumption, by assumption, by assumption, by assumption, ?_⟩) | ((with_reducible show wpAny _ _ (leaving _ (Value.ref _)) _ _ _); (k_dflt first | (refine' leave_newF (hk := by rfl) ?k1 ?k2 ?_; (case k2 => assumption); (case k1 => assumption); k_whole; intro h' R' U'; (try dsimp only at R' U' ⊢)) | (refine' leave_onF ?k1 ?k2 ?k3 ?k4 ?_; (case k3 => assumption); (case k1 => assumption); (case k2 => assumption); (case k4 => assumption); k_whole; intro h' R' U'; (try dsimp only at R' U' ⊢)))) | ((with_reducible show wpAny _ _ (subscriptTail _ _ (Value.str _ _) (Value.int _ _)) _ _ _); (k_dflt (refine' item_at ?hs ?h2 ?_ (by with_unfolding_all rfl) (by intro _; with_unfolding_all rfl); (case hs => omega); (case h2 => omega); (try dsimp only))))); k_steps)))
  refine Stop.by ?_
  rename IsRange _ _ _ _ _ _ _ _ => lR
  rename Fr _ _ _ _ => lF
  rename News _ _ _ _ => lN
  refine iter_ix S.length (fun i => ∀ v, v < i → isCh (ch S v) = true) rfl lR rfl rfl (by (first | lia | omega)) lF lN (fun v hv => absurd hv (by (first | lia | omega))) ?_ ?_
  · clear lR lF lN
    intro i t h tk own hi ho hP cF cN
    (k_steps; (try repeat' ((with_reducible refine Stop.by ?_); (first | ((with_reducible show wpAny _ _ (call (Value.ref 63) _) _ _ _); k_dflt (refine' CallsTo.use ?zs ?z1 ?z2 ?z3 ?z4 ?z5 ?zK ?zd ?zu ?_; (case z1 | z2 | z3 | z4 | z5 => k_asm); (case zK => first | exact rfl | assumption); (case zs => exact (PM.use (is_char1 _ _ _ _ _ _) _)); (case zd => first | exact room_d (by assumption) (by exact rfl) | exact room_e (by assumption) (by exact rfl) | ktr_room); (case zu => first | exact room_u (by assumption) (by exact rfl) | exact room_v (by assumption) (by exact rfl) | exact room_x (by assumption) (by exact rfl) | exact room_w (by assumption) (by exact rfl) | exact room_y (by assumption) (by exact rfl) | ktr_units); (try dsimp only [RetV, len_0, len_1, len_2, len_3, len_4, len_5, len_6, len_7, len_8, len_9, len_10, len_11, len_12, len_13, len_14, len_15, len_16, len_17, len_18]); (with_reducible (repeat' (first | (refine And.intro ?_ ?_) | intro))); (all_goals (try dsimp only)); (all_goals (try (rename (∀ p : Addr × Obj, _ ∈ _ → @LT.lt Nat _ _ _) => zl1; k_lt zl1))); (all_goals (try contradiction)))) | ((with_reducible show wpAny _ _ (call (Value.ref 150) _) _ _ _); k_dflt (refine' CallsTo.use (sf_call _ _ _ _ _ _ _ _ _) ?z1 ?z2 ?z3 ?z4 ?z5 ?zK ?zd ?zu ?_; (case z1 | z2 | z3 | z4 | z5 => k_asm); (case zK => first | exact rfl | assumption); (case zd => first | exact room_d (by assumption) (by exact rfl) | exact room_e (by assumption) (by exact rfl) | ktr_room); (case zu => first | exact room_u (by assumption) (by exact rfl) | exact room_v (by assumption) (by exact rfl) | exact room_x (by assumption) (by exact rfl) | exact room_w (by assumption) (by exact rfl) | exact room_y (by assumption) (by exact rfl) | ktr_units); intro e' t' oe' h' tk' hX' hg' hc' hd' hM'; (try dsimp only))) | ((with_reducible show wpAny _ _ (exec (Stmt.Raise _ _ _) _) _ _ _); k_dflt (refine' raise150 ?h ?_; (case h => exact rfl); (try k_fold))) | ((with_reducible show Exists _); (rename MadeF _ _ _ _ _ _ _ _ _ => hM9); refine ⟨_, _, _, rfl, by assumption, by assumption, by assumption, by assumption, ?_⟩) | ((with_reducible show wpAny _ _ (leaving _ (Value.ref _)) _ _ _); (k_dflt first | (refine' leave_newF (hk := by rfl) ?k1 ?k2 ?_; (case k2 => assumption); (case k1 => assumption); k_whole; intro h' R' U'; (try dsimp only at R' U' ⊢)) | (refine' leave_onF ?k1 ?k2 ?k3 ?k4 ?_; (case k3 => assumption); (case k1 => assumption); (case k2 => assumption); (case k4 => assumption); k_whole; intro h' R' U'; (try dsimp only at R' U' ⊢)))) | ((with_reducible show wpAny _ _ (subscriptTail _ _ (Value.str _ _) (Value.int _ _)) _ _ _); (k_dflt (refine' item_at ?hs ?h2 ?_ (by with_unfolding_all rfl) (by intro _; with_unfolding_all rfl); (case hs => omega); (case h2 => omega); (try dsimp only))))); k_steps)))
    all_goals (dsimp only at hret)
    · rename isCh _ = true => hh
      exact ix_end (by assumption) (by assumption) (fun p hp => hp) (fun z hz => if_neg hz) (fun v hv => (Nat.lt_or_ge v i).elim (fun q => hP v q) fun q => by rw [show v = i by (first | lia | omega)]; exact hh)
    · rename isCh _ = false => hh
      rename RaisedF _ _ _ _ _ _ _ _ _ => hR
      (refine' excB ((hret (some i) ⟨hi, hh, hP⟩).2 i rfl) ?R ?q ?U ?F; (case R => exact hR.less fun p hp => List.mem_append_left _ hp); (case q => exact rfl); (case U => assumption); (case F => assumption))
  · clear lR lF lN
    intro u h tk hP cF cN
    k_steps
    dsimp only at hret
    exact retB ((hret none hP).1 rfl) rfl (by assumption) (by assumption)
end Mine
end -- P5
section -- P6
namespace Mine
set_option maxHeartbeats 8000000 in
theorem read_system_spec (w mean mg mb) (T : Str) (k : Nat) (hT : T.length ≤ 1000) (hk : k < T.length) (hq : ch T k = 34) : CM w mean mg mb 8 279 T k [] fun R X => ∀ r, Fst T ⟨#[34]⟩ (k + 1) r → (r = none → X (k + 1) (k + 1)) ∧ (∀ j, r = some j → ∀ b, BadAt (sub T (k + 1) j) b → (b = none → ∀ t, R (.val (.str (sub T (k + 1) j) t)) (j + 1)) ∧ (∀ i, b = some i → X (k + 1 + i) (j + 1))) := by
  refine CM.of ?_ (by intro R R' X X' hR hX h; exact fun r hr => ⟨fun q => hX _ _ ((h r hr).1 q), fun j q b hb => ⟨fun z t => hR _ _ (((h r hr).2 j q b hb).1 z t), fun i z => hX _ _ (((h r hr).2 j q b hb).2 i z)⟩⟩)
  unfold CM0 CallsTo
  intros
  rename_i hret
  refine wpAny_call ?_
  k_dflt (refine' code_def ?k1 ?k2 ?k3 ?k4 ?k5 ?kA ?kF ?kK ?k6 ?k7 ?k8 ?k9 ?kB ?_ ?c2 ?c3 ?c4 ?c5; (case kA | kF => exact rfl); (case kK => first | exact rfl | assumption); (case k1 | k2 | k3 | k4 | k5 => k_asm); (case k6 | k7 => k_is); (case k8 => first | exact room_0 (by assumption) | ktr_room); (case k9 => first | exact BindsTo.of_eq rfl | exact binds_K (by k_in) rfl (by k_is) rfl rfl rfl); (case c5 => decide); (case kB => exact locs rfl); (case c2 | c3 | c4 => exact rfl); k_whole; intro g' L' h' FG' F' N' B' X' T'; (try dsimp only); (try k_fold))
  (k_steps; (try repeat' ((with_reducible refine Stop.by ?_); (first | ((with_reducible show wpAny _ _ (call (Value.ref 183) _) _ _ _); k_dflt (refine' CallsTo.use ?zs ?z1 ?z2 ?z3 ?z4 ?z5 ?zK ?zd ?zu ?_; (case z1 | z2 | z3 | z4 | z5 => k_asm); (case zK => first | exact rfl | assumption); (case zs => exact (PM.use (check_spec _ _ _ _ _ _ _ _ (by walk_at "zz side")) _)); (case zd => first | exact room_d (by assumption) (by exact rfl) | exact room_e (by assumption) (by exact rfl) | ktr_room); (case zu => first | exact room_u (by assumption) (by exact rfl) | exact room_v (by assumption) (by exact rfl) | exact room_x (by assumption) (by exact rfl) | exact room_w (by assumption) (by exact rfl) | exact room_y (by assumption) (by exact rfl) | ktr_units); (try dsimp only [RetV, len_0, len_1, len_2, len_3, len_4, len_5, len_6, len_7, len_8, len_9, len_10, len_11, len_12, len_13, len_14, len_15, len_16, len_17, len_18]); (with_reducible (repeat' (first | (refine And.intro ?_ ?_) | intro))); (all_goals (try dsimp only)); (all_goals (try (rename (∀ p : Addr × Obj, _ ∈ _ → @LT.lt Nat _ _ _) => zl1; k_lt zl1))); (all_goals (try contradiction)))) | ((with_reducible show wpAny _ _ (call (Value.ref 408) _) _ _ _); k_dflt (refine' CM.useI ?zs ?z1 ?z2 ?z3 ?z4 ?z5 ?zK ?zd ?zu ?zc ?zU ?ze ?_; (case z1 | z2 | z3 | z4 | z5 => k_asm); (case zK => first | exact rfl | assumption); (case zc => k_mem); (case zU => k_updF); (case ze => first | with_reducible exact rfl | with_reducible exact ca1 _ | with_reducible exact caN _ _ | exact ca0); (case zs => exact (quoted_spec _ _ _ _ _ _ _ (by walk_at "zz side") (by walk_at "zz side") (by walk_at "zz side") (by walk_at "zz side"))); (case zd => first | exact room_d (by assumption) (by exact rfl) | exact room_e (by assumption) (by exact rfl) | ktr_room); (case zu => first | exact room_u (by assumption) (by exact rfl) | exact room_v (by assumption) (by exact rfl) | exact room_x (by assumption) (by exact rfl) | exact room_w (by assumption) (by exact rfl) | exact room_y (by assumption) (by exact rfl) | ktr_units); (try dsimp only [RetV, len_0, len_1, len_2, len_3, len_4, len_5, len_6, len_7, len_8, len_9, len_10, len_11, len_12, len_13, len_14, len_15, len_16, len_17, len_18]); (with_reducible (repeat' (first | (refine And.intro ?_ ?_) | intro))); (all_goals (try dsimp only)); (all_goals (try (rename (∀ p : Addr × Obj, _ ∈ _ → @LT.lt Nat _ _ _) => zl1; k_lt zl1))); (all_goals (try contradiction)))) | ((with_reducible show wpAny _ _ (call (Value.ref 150) _) _ _ _); k_dflt (refine' CallsTo.use (sf_call _ _ _ _ _ _ _ _ _) ?z1 ?z2 ?z3 ?z4 ?z5 ?zK ?zd ?zu ?_; (case z1 | z2 | z3 | z4 | z5 => k_asm); (case zK => first | exact rfl | assumption); (case zd => first | exact room_d (by assumption) (by exact rfl) | exact room_e (by assumption) (by exact rfl) | ktr_room); (case zu => first | exact room_u (by assumption) (by exact rfl) | exact room_v (by assumption) (by exact rfl) | exact room_x (by assumption) (by exact rfl) | exact room_w (by assumption) (by exact rfl) | exact room_y (by assumption) (by exact rfl) | ktr_units); intro e' t' oe' h' tk' hX' hg' hc' hd' hM'; (try dsimp only))) | ((with_reducible show wpAny _ _ (exec (Stmt.Raise _ _ _) _) _ _ _); k_dflt (refine' raise150 ?h ?_; (case h => exact rfl); (try k_fold))) | ((with_reducible show Exists _); (rename MadeF _ _ _ _ _ _ _ _ _ => hM9); refine ⟨_, _, _, rfl, by assumption, by assumption, by assumption, by assumption, ?_⟩) | ((with_reducible show wpAny _ _ (leaving _ (Value.ref _)) _ _ _); (k_dflt first | (refine' leave_newF (hk := by rfl) ?k1 ?k2 ?_; (case k2 => assumption); (case k1 => assumption); k_whole; intro h' R' U'; (try dsimp only at R' U' ⊢)) | (refine' leave_onF ?k1 ?k2 ?k3 ?k4 ?_; (case k3 => assumption); (case k1 => assumption); (case k2 => assumption); (case k4 => assumption); k_whole; intro h' R' U'; (try dsimp only at R' U' ⊢))))); k_steps)))
  all_goals (dsimp only [RetV] at hret; rename Fst _ _ _ _ => hF)
  · rename BadAt _ _ => hB
    exact ((hret _ hF).2 _ (by assumption) _ hB).1 (by assumption) _ _ _ _ (by assumption) (newsTl (by assumption))
  · rename BadAt _ _ => hB
    rename RaisedF _ _ _ _ _ _ _ _ _ => hR9
    have hR8 := RaisedF.less hR9 (fun p hp => List.Mem.tail _ hp)
    (refine' excB (((hret _ hF).2 _ (by assumption) _ hB).2 _ (by assumption) _) ?R rfl ?U ?F; (case R => exact hR8); (case U => assumption); (case F => assumption))
  · (refine' excB ((hret _ hF).1 (by assumption) _) ?R rfl ?U ?F; (case R => assumption); (case U => assumption); (case F => assumption))
end Mine
end -- P6
section -- P7
namespace Mine
theorem quoted_p (w mean mg mb) (T : Str) (k : Nat) (hT : T.length ≤ 1000) (hk : k + 2 < T.length) (hq : ch T k = 39) (hp : ch T (k + 1) = 112) (hq2 : ch T (k + 2) = 39) :
    CM w mean mg mb 7 408 T k [] fun R X => ∀ t t', R (.tup [.str (Str.ofString "p") t, .int (k + 1 : Nat) t']) (k + 3) :=
  CM.imp (quoted_spec w mean mg mb T k 39 hT (by (first | lia | omega)) hq (.inr rfl)) fun R X h r hr => by
    have hF : Fst T ⟨#[39]⟩ (k + 1) (some (k + 2)) := ⟨by (first | lia | omega), hit_one.mpr ⟨hk, hq2⟩, fun i h1 h2 h3 => by
      rw [show i = k + 1 by (first | lia | omega)] at h3
      have := (hit_one.mp h3).2
      (first | lia | omega)⟩
    have e := hr.only hF
    subst e
    refine ⟨fun j q t t' => ?_, fun q => nomatch q⟩
    injection q with q
    subst q
    have es : sub T (k + 1) (k + 2) = Str.ofString "p" := by
      rw [show k + 2 = k + 1 + 1 from rfl, peek1 (by (first | lia | omega)), hp]
      decide +kernel
    rw [es]
    exact h t t'
local macro_rules | `(tactic| walk_at "call builtin:str.join") => `(tactic| (k_here; (with_reducible rename CarriedAll _ _ => hc9); refine Stop.at ?_))
local macro_rules | `(tactic| walk_at "pyIter ref") => `(tactic| (k_here; (with_reducible show wpAny _ _ (pyIter (Value.ref _)) (fun it s₂ => LoopAtV _ _ _ _ _ _ _ _ _ it s₂) _ _); refine Stop.at ?_))
set_option maxHeartbeats 8000000 in
theorem read_public_spec (w mean mg mb) (T : Str) (k : Nat) (hT : T.length ≤ 1000) (hk : k + 2 < T.length) (hq : ch T k = 39) (hp : ch T (k + 1) = 112) (hq2 : ch T (k + 2) = 39) :
    CM w mean mg mb 8 272 T k [] fun R X => ∀ t, R (.val (.str (Str.ofString "p") t)) (k + 3) := by
  have hl : (Str.ofString "p").length = 1 := by decide +kernel
  refine CM.of ?_ (by intro R R' X X' hR hX h; exact fun t => hR _ _ (h t))
  unfold CM0 CallsTo
  intros
  rename_i hret
  refine wpAny_call ?_
  k_dflt (refine' code_def ?k1 ?k2 ?k3 ?k4 ?k5 ?kA ?kF ?kK ?k6 ?k7 ?k8 ?k9 ?kB ?_ ?c2 ?c3 ?c4 ?c5; (case kA | kF => exact rfl); (case kK => first | exact rfl | assumption); (case k1 | k2 | k3 | k4 | k5 => k_asm); (case k6 | k7 => k_is); (case k8 => first | exact room_0 (by assumption) | ktr_room); (case k9 => first | exact BindsTo.of_eq rfl | exact binds_K (by k_in) rfl (by k_is) rfl rfl rfl); (case c5 => decide); (case kB => exact locs rfl); (case c2 | c3 | c4 => exact rfl); k_whole; intro g' L' h' FG' F' N' B' X' T'; (try dsimp only); (try k_fold))
  (k_steps; (try repeat' ((with_reducible refine Stop.by ?_); (first | ((with_reducible show wpAny _ _ (call (Value.ref 408) _) _ _ _); k_dflt (refine' CM.useI ?zs ?z1 ?z2 ?z3 ?z4 ?z5 ?zK ?zd ?zu ?zc ?zU ?ze ?_; (case z1 | z2 | z3 | z4 | z5 => k_asm); (case zK => first | exact rfl | assumption); (case zc => k_mem); (case zU => k_updF); (case ze => first | with_reducible exact rfl | with_reducible exact ca1 _ | with_reducible exact caN _ _ | exact ca0); (case zs => exact (quoted_p _ _ _ _ _ _ (by walk_at "zz side") (by walk_at "zz side") (by walk_at "zz side") (by walk_at "zz side") (by walk_at "zz side"))); (case zd => first | exact room_d (by assumption) (by exact rfl) | exact room_e (by assumption) (by exact rfl) | ktr_room); (case zu => first | exact room_u (by assumption) (by exact rfl) | exact room_v (by assumption) (by exact rfl) | exact room_x (by assumption) (by exact rfl) | exact room_w (by assumption) (by exact rfl) | exact room_y (by assumption) (by exact rfl) | ktr_units); (try dsimp only [RetV, len_0, len_1, len_2, len_3, len_4, len_5, len_6, len_7, len_8, len_9, len_10, len_11, len_12, len_13, len_14, len_15, len_16, len_17, len_18]); (with_reducible (repeat' (first | (refine And.intro ?_ ?_) | intro))); (all_goals (try dsimp only)); (all_goals (try (rename (∀ p : Addr × Obj, _ ∈ _ → @LT.lt Nat _ _ _) => zl1; k_lt zl1))); (all_goals (try contradiction)))) | (k_dflt (refine wpAny_call ?_; (refine' code_def ?k1 ?k2 ?k3 ?k4 ?k5 ?kA ?kF ?kK ?k6 ?k7 ?k8 ?k9 ?kB ?_ ?c2 ?c3 ?c4 ?c5; (case kA | kF => exact rfl); (case kK => first | exact rfl | assumption); (case k1 | k2 | k3 | k4 | k5 => k_asm); (case k6 | k7 => k_is); (case k8 => first | exact room_0 (by assumption) | ktr_room); (case k9 => first | exact BindsTo.of_eq rfl | exact binds_K (by k_in) rfl (by k_is) rfl rfl rfl); (case c5 => decide); (case kB => exact locs rfl); (case c2 | c3 | c4 => exact rfl); k_whole; intro g' L' h' FG' F' N' B' X' T'; (try dsimp only); (try k_fold)))) | ((with_reducible show wpAny _ _ (call (Value.ref 150) _) _ _ _); k_dflt (refine' CallsTo.use (sf_call _ _ _ _ _ _ _ _ _) ?z1 ?z2 ?z3 ?z4 ?z5 ?zK ?zd ?zu ?_; (case z1 | z2 | z3 | z4 | z5 => k_asm); (case zK => first | exact rfl | assumption); (case zd => first | exact room_d (by assumption) (by exact rfl) | exact room_e (by assumption) (by exact rfl) | ktr_room); (case zu => first | exact room_u (by assumption) (by exact rfl) | exact room_v (by assumption) (by exact rfl) | exact room_x (by assumption) (by exact rfl) | exact room_w (by assumption) (by exact rfl) | exact room_y (by assumption) (by exact rfl) | ktr_units); intro e' t' oe' h' tk' hX' hg' hc' hd' hM'; (try dsimp only))) | ((with_reducible show wpAny _ _ (exec (Stmt.Raise _ _ _) _) _ _ _); k_dflt (refine' raise150 ?h ?_; (case h => exact rfl); (try k_fold))) | ((with_reducible show Exists _); (rename MadeF _ _ _ _ _ _ _ _ _ => hM9); refine ⟨_, _, _, rfl, by assumption, by assumption, by assumption, by assumption, ?_⟩) | ((with_reducible show wpAny _ _ (leaving _ (Value.ref _)) _ _ _); (k_dflt first | (refine' leave_newF (hk := by rfl) ?k1 ?k2 ?_; (case k2 => assumption); (case k1 => assumption); k_whole; intro h' R' U'; (try dsimp only at R' U' ⊢)) | (refine' leave_onF ?k1 ?k2 ?k3 ?k4 ?_; (case k3 => assumption); (case k1 => assumption); (case k2 => assumption); (case k4 => assumption); k_whole; intro h' R' U'; (try dsimp only at R' U' ⊢)))) | ((with_reducible show wpAny _ _ (subscriptTail _ _ (Value.str _ _) (Value.int _ _)) _ _ _); (k_dflt (refine' item_at ?hs ?h2 ?_ (by with_unfolding_all rfl) (by intro _; with_unfolding_all rfl); (case hs => omega); (case h2 => omega); (try dsimp only))))); k_steps)))
  rotate_left
  · exfalso; rename ((1 : Nat) : Int) = 0 => hz; (first | lia | omega)
  refine Stop.by ?_
  rename IsRange _ _ _ _ _ _ _ _ => lR
  rename Fr _ _ _ _ => lF
  rename News _ _ _ _ => lN
  refine iter_ix 1 (fun i => True) rfl lR rfl (by first | rfl | decide +kernel) (by (first | lia | omega)) lF lN trivial ?_ ?_
  · clear lR lF lN
    intro i t h tk own hi ho hP cF cN
    obtain rfl : i = 0 := by (first | lia | omega)
    (k_steps; (try repeat' ((with_reducible refine Stop.by ?_); (first | (k_dflt (refine wpAny_call ?_; (refine' code_def ?k1 ?k2 ?k3 ?k4 ?k5 ?kA ?kF ?kK ?k6 ?k7 ?k8 ?k9 ?kB ?_ ?c2 ?c3 ?c4 ?c5; (case kA | kF => exact rfl); (case kK => first | exact rfl | assumption); (case k1 | k2 | k3 | k4 | k5 => k_asm); (case k6 | k7 => k_is); (case k8 => first | exact room_0 (by assumption) | ktr_room); (case k9 => first | exact BindsTo.of_eq rfl | exact binds_K (by k_in) rfl (by k_is) rfl rfl rfl); (case c5 => decide); (case kB => exact locs rfl); (case c2 | c3 | c4 => exact rfl); k_whole; intro g' L' h' FG' F' N' B' X' T'; (try dsimp only); (try k_fold)))) | ((with_reducible show wpAny _ _ (call (Value.ref 150) _) _ _ _); k_dflt (refine' CallsTo.use (sf_call _ _ _ _ _ _ _ _ _) ?z1 ?z2 ?z3 ?z4 ?z5 ?zK ?zd ?zu ?_; (case z1 | z2 | z3 | z4 | z5 => k_asm); (case zK => first | exact rfl | assumption); (case zd => first | exact room_d (by assumption) (by exact rfl) | exact room_e (by assumption) (by exact rfl) | ktr_room); (case zu => first | exact room_u (by assumption) (by exact rfl) | exact room_v (by assumption) (by exact rfl) | exact room_x (by assumption) (by exact rfl) | exact room_w (by assumption) (by exact rfl) | exact room_y (by assumption) (by exact rfl) | ktr_units); intro e' t' oe' h' tk' hX' hg' hc' hd' hM'; (try dsimp only))) | ((with_reducible show wpAny _ _ (exec (Stmt.Raise _ _ _) _) _ _ _); k_dflt (refine' raise150 ?h ?_; (case h => exact rfl); (try k_fold))) | ((with_reducible show Exists _); (rename MadeF _ _ _ _ _ _ _ _ _ => hM9); refine ⟨_, _, _, rfl, by assumption, by assumption, by assumption, by assumption, ?_⟩) | ((with_reducible show wpAny _ _ (leaving _ (Value.ref _)) _ _ _); (k_dflt first | (refine' leave_newF (hk := by rfl) ?k1 ?k2 ?_; (case k2 => assumption); (case k1 => assumption); k_whole; intro h' R' U'; (try dsimp only at R' U' ⊢)) | (refine' leave_onF ?k1 ?k2 ?k3 ?k4 ?_; (case k3 => assumption); (case k1 => assumption); (case k2 => assumption); (case k4 => assumption); k_whole; intro h' R' U'; (try dsimp only at R' U' ⊢)))) | ((with_reducible show wpAny _ _ (subscriptTail _ _ (Value.str _ _) (Value.int _ _)) _ _ _); (k_dflt (refine' item_at ?hs ?h2 ?_ (by with_unfolding_all rfl) (by intro _; with_unfolding_all rfl); (case hs => omega); (case h2 => omega); (try dsimp only))))); k_steps)))
    exact ix_end (by assumption) (by assumption) (fun p hp => hp) (fun z hz => if_neg hz) (trivial)
  · clear lR lF lN
    intro u h tk hP cF cN
    k_steps
    rw [show Txt.replace (Str.ofString "p") (Str.ofString "\n") (Str.ofString " ") = Str.ofString "p" by decide +kernel]
    (k_steps; (try repeat' ((with_reducible refine Stop.by ?_); (first | (k_dflt (refine wpAny_call ?_; (refine' code_def ?k1 ?k2 ?k3 ?k4 ?k5 ?kA ?kF ?kK ?k6 ?k7 ?k8 ?k9 ?kB ?_ ?c2 ?c3 ?c4 ?c5; (case kA | kF => exact rfl); (case kK => first | exact rfl | assumption); (case k1 | k2 | k3 | k4 | k5 => k_asm); (case k6 | k7 => k_is); (case k8 => first | exact room_0 (by assumption) | ktr_room); (case k9 => first | exact BindsTo.of_eq rfl | exact binds_K (by k_in) rfl (by k_is) rfl rfl rfl); (case c5 => decide); (case kB => exact locs rfl); (case c2 | c3 | c4 => exact rfl); k_whole; intro g' L' h' FG' F' N' B' X' T'; (try dsimp only); (try k_fold)))) | ((with_reducible show wpAny _ _ (call (Value.ref 150) _) _ _ _); k_dflt (refine' CallsTo.use (sf_call _ _ _ _ _ _ _ _ _) ?z1 ?z2 ?z3 ?z4 ?z5 ?zK ?zd ?zu ?_; (case z1 | z2 | z3 | z4 | z5 => k_asm); (case zK => first | exact rfl | assumption); (case zd => first | exact room_d (by assumption) (by exact rfl) | exact room_e (by assumption) (by exact rfl) | ktr_room); (case zu => first | exact room_u (by assumption) (by exact rfl) | exact room_v (by assumption) (by exact rfl) | exact room_x (by assumption) (by exact rfl) | exact room_w (by assumption) (by exact rfl) | exact room_y (by assumption) (by exact rfl) | ktr_units); intro e' t' oe' h' tk' hX' hg' hc' hd' hM'; (try dsimp only))) | ((with_reducible show wpAny _ _ (exec (Stmt.Raise _ _ _) _) _ _ _); k_dflt (refine' raise150 ?h ?_; (case h => exact rfl); (try k_fold))) | ((with_reducible show Exists _); (rename MadeF _ _ _ _ _ _ _ _ _ => hM9); refine ⟨_, _, _, rfl, by assumption, by assumption, by assumption, by assumption, ?_⟩) | ((with_reducible show wpAny _ _ (leaving _ (Value.ref _)) _ _ _); (k_dflt first | (refine' leave_newF (hk := by rfl) ?k1 ?k2 ?_; (case k2 => assumption); (case k1 => assumption); k_whole; intro h' R' U'; (try dsimp only at R' U' ⊢)) | (refine' leave_onF ?k1 ?k2 ?k3 ?k4 ?_; (case k3 => assumption); (case k1 => assumption); (case k2 => assumption); (case k4 => assumption); k_whole; intro h' R' U'; (try dsimp only at R' U' ⊢)))) | ((with_reducible show wpAny _ _ (subscriptTail _ _ (Value.str _ _) (Value.int _ _)) _ _ _); (k_dflt (refine' item_at ?hs ?h2 ?_ (by with_unfolding_all rfl) (by intro _; with_unfolding_all rfl); (case hs => omega); (case h2 => omega); (try dsimp only))))); k_steps)))
    refine Stop.by ?_
    rename CarriedAll _ _ => hc9
    (try simp only [List.map_cons, List.map_nil] at hc9)
    rw [show List.filter (fun a => a != Str.ofString "") [(⟨#[112]⟩ : Str)] = [Str.ofString "p"] by decide +kernel] at hc9
    refine join_madeW (g := id) (l := [Str.ofString "p"]) 3 (by assumption) (by simpa using hc9) (fun a ha => by rw [List.mem_singleton.mp ha]; decide +kernel) (by decide) (by decide +kernel) ?_
    intro t' k'
    rw [show Txt.join (Str.ofString " ") ([Str.ofString "p"].map id) = Str.ofString "p" by decide +kernel]
    k_steps
    dsimp only [RetV] at hret
    rename News _ _ _ _ => nn
    exact hret _ _ _ _ (by assumption) (fun p hp => nn p (by first | exact hp | exact .tail _ hp | exact .tail _ (.tail _ hp) | exact .tail _ (.tail _ (.tail _ hp))))
end Mine
end -- P7
section -- P8
namespace Mine
theorem need_spaces_j (w mean mg mb) (T : Str) (k j : Nat) (hT : T.length ≤ 1000) (hj : Sps T k j) (hkj : k < j) : CM w mean mg mb 6 394 T k [] fun R X => R (.val .none) j :=
  CM.imp (need_spaces_spec w mean mg mb T k hT (by have := hj.1; have := hj.2.1; (first | lia | omega))) fun R X h j' hj' => by
    have e : j' = j := by
      rcases Nat.lt_trichotomy j' j with q | q | q
      · have h1 := hj'.2.2.2 (by have := hj.2.1; (first | lia | omega))
        rw [hj.2.2.1 j' hj'.1 q] at h1; cases h1
      · exact q
      · have h1 := hj.2.2.2 (by have := hj'.2.1; (first | lia | omega))
        rw [hj'.2.2.1 j hj.1 q] at h1; cases h1
    subst e
    exact ⟨fun _ => h, fun q => absurd q (by (first | lia | omega))⟩
set_option maxHeartbeats 8000000 in
theorem outer_none (w mean mg mb) (T : Str) (k : Nat) (hT : T.length ≤ 1000) (hk : k ≤ T.length) (h1 : ¬ Hit T (Str.ofString "SYSTEM") k) (h2 : ¬ Hit T (Str.ofString "PUBLIC") k) : CM w mean mg mb 9 286 T k [] fun R X => R (.tup [.none, .none]) k := by
  refine CM.of ?_ (by intro R R' X X' hR hX h; (first | exact hR _ _ h | exact hX _ _ h | exact fun a b c d => hR _ _ (h a b c d) | exact ⟨fun q => hR _ _ (h.1 q), fun q => hR _ _ (h.2 q)⟩ | exact ⟨fun q => hR _ _ (h.1 q), fun q => hX _ _ (h.2 q)⟩))
  unfold CM0 CallsTo
  intros
  rename_i hret
  refine wpAny_call ?_
  k_dflt (refine' code_def ?k1 ?k2 ?k3 ?k4 ?k5 ?kA ?kF ?kK ?k6 ?k7 ?k8 ?k9 ?kB ?_ ?c2 ?c3 ?c4 ?c5; (case kA | kF => exact rfl); (case kK => first | exact rfl | assumption); (case k1 | k2 | k3 | k4 | k5 => k_asm); (case k6 | k7 => k_is); (case k8 => first | exact room_0 (by assumption) | ktr_room); (case k9 => first | exact BindsTo.of_eq rfl | exact binds_K (by k_in) rfl (by k_is) rfl rfl rfl); (case c5 => decide); (case kB => exact locs rfl); (case c2 | c3 | c4 => exact rfl); k_whole; intro g' L' h' FG' F' N' B' X' T'; (try dsimp only); (try k_fold))
  (k_steps; (try repeat' ((with_reducible refine Stop.by ?_); ((first | (with_reducible show wpAny _ _ (call (Value.ref 272) _) _ _ _) | (with_reducible show wpAny _ _ (call (Value.ref 279) _) _ _ _) | (with_reducible show wpAny _ _ (call (Value.ref 359) _) _ _ _)); k_dflt (refine' CM.useI ?zs ?z1 ?z2 ?z3 ?z4 ?z5 ?zK ?zd ?zu ?zc ?zU ?ze ?_; (case z1 | z2 | z3 | z4 | z5 => k_asm); (case zK => first | exact rfl | assumption); (case zc => k_mem); (case zU => k_updF); (case ze => first | with_reducible exact rfl | with_reducible exact ca1 _ | with_reducible exact caN _ _ | exact ca0); (case zs => first | exact (read_public_spec _ _ _ _ _ _ (by walk_at "zz side") (by walk_at "zz side") (by walk_at "zz side") (by walk_at "zz side") (by walk_at "zz side")) | exact (read_system_spec _ _ _ _ _ _ (by walk_at "zz side") (by walk_at "zz side") (by walk_at "zz side")) | exact (skip_spec _ _ _ _ _ _ (by walk_at "zz side") (by walk_at "zz side") _ _ (by walk_at "zz side"))); (case zd => first | exact room_d (by assumption) (by exact rfl) | exact room_e (by assumption) (by exact rfl) | ktr_room); (case zu => first | exact room_u (by assumption) (by exact rfl) | exact room_v (by assumption) (by exact rfl) | exact room_x (by assumption) (by exact rfl) | exact room_w (by assumption) (by exact rfl) | exact room_y (by assumption) (by exact rfl) | ktr_units); (try dsimp only [RetV, len_0, len_1, len_2, len_3, len_4, len_5, len_6, len_7, len_8, len_9, len_10, len_11, len_12, len_13, len_14, len_15, len_16, len_17, len_18]); (with_reducible (repeat' (first | (refine And.intro ?_ ?_) | intro))); (all_goals (try dsimp only)); (all_goals (try (rename (∀ p : Addr × Obj, _ ∈ _ → @LT.lt Nat _ _ _) => zl1; k_lt zl1))); (all_goals (try contradiction)))); k_steps)))
  dsimp only [RetV] at hret
  rename _ ∧ _ ∧ AllLt _ _ => l9
  exact hret _ _ (fun p hp => kst_ltOf (l := (_, _) :: (_, _) :: _) l9 p hp) _ _ (by assumption) (by assumption)
noncomputable abbrev SysPost (T : Str) (k : Nat) (pub : CTok → Value) (R : RV → Nat → Prop) (X : Nat → Nat → Prop) : Prop :=
  ∀ r, Fst T ⟨#[34]⟩ (k + 1) r → (r = none → X (k + 1) (k + 1)) ∧ (∀ j, r = some j → ∀ b, BadAt (sub T (k + 1) j) b → (b = none → ∀ t t', R (.tup [pub t', .str (sub T (k + 1) j) t]) (j + 1)) ∧ (∀ i, b = some i → X (k + 1 + i) (j + 1)))
set_option maxHeartbeats 8000000 in
theorem outer_sys (w mean mg mb) (T : Str) (k : Nat) (hT : T.length ≤ 1000) (hk : k + 7 < T.length) (h1 : Hit T (Str.ofString "SYSTEM") k) (h2 : Sps T (k + 6) (k + 7)) (hq : ch T (k + 7) = 34) :
    CM w mean mg mb 9 286 T k [] (SysPost T (k + 7) fun _ => .none) := by
  refine CM.of ?_ (by intro R R' X X' hR hX h; exact fun r hr => ⟨fun q => hX _ _ ((h r hr).1 q), fun j q b hb => ⟨fun z t t' => hR _ _ (((h r hr).2 j q b hb).1 z t t'), fun i z => hX _ _ (((h r hr).2 j q b hb).2 i z)⟩⟩)
  unfold CM0 CallsTo
  intros
  rename_i hret
  refine wpAny_call ?_
  k_dflt (refine' code_def ?k1 ?k2 ?k3 ?k4 ?k5 ?kA ?kF ?kK ?k6 ?k7 ?k8 ?k9 ?kB ?_ ?c2 ?c3 ?c4 ?c5; (case kA | kF => exact rfl); (case kK => first | exact rfl | assumption); (case k1 | k2 | k3 | k4 | k5 => k_asm); (case k6 | k7 => k_is); (case k8 => first | exact room_0 (by assumption) | ktr_room); (case k9 => first | exact BindsTo.of_eq rfl | exact binds_K (by k_in) rfl (by k_is) rfl rfl rfl); (case c5 => decide); (case kB => exact locs rfl); (case c2 | c3 | c4 => exact rfl); k_whole; intro g' L' h' FG' F' N' B' X' T'; (try dsimp only); (try k_fold))
  (k_steps; (try repeat' ((with_reducible refine Stop.by ?_); (first | ((first | (with_reducible show wpAny _ _ (call (Value.ref 272) _) _ _ _) | (with_reducible show wpAny _ _ (call (Value.ref 279) _) _ _ _) | (with_reducible show wpAny _ _ (call (Value.ref 359) _) _ _ _) | (with_reducible show wpAny _ _ (call (Value.ref 394) _) _ _ _)); k_dflt (refine' CM.useI ?zs ?z1 ?z2 ?z3 ?z4 ?z5 ?zK ?zd ?zu ?zc ?zU ?ze ?_; (case z1 | z2 | z3 | z4 | z5 => k_asm); (case zK => first | exact rfl | assumption); (case zc => k_mem); (case zU => k_updF); (case ze => first | with_reducible exact rfl | with_reducible exact ca1 _ | with_reducible exact caN _ _ | exact ca0); (case zs => first | exact (read_public_spec _ _ _ _ _ _ (by walk_at "zz side") (by walk_at "zz side") (by walk_at "zz side") (by walk_at "zz side") (by walk_at "zz side")) | exact (read_system_spec _ _ _ _ _ _ (by walk_at "zz side") (by walk_at "zz side") (by walk_at "zz side")) | exact (skip_spec _ _ _ _ _ _ (by walk_at "zz side") (by walk_at "zz side") _ _ (by walk_at "zz side")) | exact (need_spaces_j _ _ _ _ _ _ _ (by walk_at "zz side") (by walk_at "zz side") (by walk_at "zz side"))); (case zd => first | exact room_d (by assumption) (by exact rfl) | exact room_e (by assumption) (by exact rfl) | ktr_room); (case zu => first | exact room_u (by assumption) (by exact rfl) | exact room_v (by assumption) (by exact rfl) | exact room_x (by assumption) (by exact rfl) | exact room_w (by assumption) (by exact rfl) | exact room_y (by assumption) (by exact rfl) | ktr_units); (try dsimp only [RetV, len_0, len_1, len_2, len_3, len_4, len_5, len_6, len_7, len_8, len_9, len_10, len_11, len_12, len_13, len_14, len_15, len_16, len_17, len_18]); (with_reducible (repeat' (first | (refine And.intro ?_ ?_) | intro))); (all_goals (try dsimp only)); (all_goals (try (rename (∀ p : Addr × Obj, _ ∈ _ → @LT.lt Nat _ _ _) => zl1; k_lt zl1))); (all_goals (try contradiction)))) | ((with_reducible show wpAny _ _ (call (Value.ref 150) _) _ _ _); k_dflt (refine' CallsTo.use (sf_call _ _ _ _ _ _ _ _ _) ?z1 ?z2 ?z3 ?z4 ?z5 ?zK ?zd ?zu ?_; (case z1 | z2 | z3 | z4 | z5 => k_asm); (case zK => first | exact rfl | assumption); (case zd => first | exact room_d (by assumption) (by exact rfl) | exact room_e (by assumption) (by exact rfl) | ktr_room); (case zu => first | exact room_u (by assumption) (by exact rfl) | exact room_v (by assumption) (by exact rfl) | exact room_x (by assumption) (by exact rfl) | exact room_w (by assumption) (by exact rfl) | exact room_y (by assumption) (by exact rfl) | ktr_units); intro e' t' oe' h' tk' hX' hg' hc' hd' hM'; (try dsimp only))) | ((with_reducible show wpAny _ _ (exec (Stmt.Raise _ _ _) _) _ _ _); k_dflt (refine' raise150 ?h ?_; (case h => exact rfl); (try k_fold))) | ((with_reducible show Exists _); (rename MadeF _ _ _ _ _ _ _ _ _ => hM9); refine ⟨_, _, _, rfl, by assumption, by assumption, by assumption, by assumption, ?_⟩) | ((with_reducible show wpAny _ _ (leaving _ (Value.ref _)) _ _ _); (k_dflt first | (refine' leave_newF (hk := by rfl) ?k1 ?k2 ?_; (case k2 => assumption); (case k1 => assumption); k_whole; intro h' R' U'; (try dsimp only at R' U' ⊢)) | (refine' leave_onF ?k1 ?k2 ?k3 ?k4 ?_; (case k3 => assumption); (case k1 => assumption); (case k2 => assumption); (case k4 => assumption); k_whole; intro h' R' U'; (try dsimp only at R' U' ⊢))))); k_steps)))
  all_goals (dsimp only [RetV, SysPost] at hret; rename Fst _ _ _ _ => hF)
  · (refine' excB ((hret _ hF).1 (by assumption) _) ?R rfl ?U ?F; (case R => assumption); (case U => assumption); (case F => assumption))
  · rename BadAt _ _ => hB
    rename _ ∧ _ ∧ AllLt _ _ => l9
    exact ((hret _ hF).2 _ (by assumption) _ hB).1 (by assumption) _ 0 _ _ (fun p hp => kst_ltOf (l := (_, _) :: (_, _) :: _) l9 p hp) _ _ (by assumption) (by assumption)
  · rename BadAt _ _ => hB
    (refine' excB (((hret _ hF).2 _ (by assumption) _ hB).2 _ (by assumption) _) ?R rfl ?U ?F; (case R => assumption); (case U => assumption); (case F => assumption))
set_option maxHeartbeats 8000000 in
theorem outer_pub (w mean mg mb) (T : Str) (k : Nat) (hT : T.length ≤ 1000) (hk : k + 11 < T.length) (h0 : ¬ Hit T (Str.ofString "SYSTEM") k) (h1 : Hit T (Str.ofString "PUBLIC") k) (h2 : Sps T (k + 6) (k + 7)) (h3 : ch T (k + 7) = 39) (h4 : ch T (k + 8) = 112) (h5 : ch T (k + 9) = 39) (h6 : Sps T (k + 10) (k + 11)) (hq : ch T (k + 11) = 34) :
    CM w mean mg mb 9 286 T k [] (SysPost T (k + 11) fun t => .str (Str.ofString "p") t) := by
  refine CM.of ?_ (by intro R R' X X' hR hX h; exact fun r hr => ⟨fun q => hX _ _ ((h r hr).1 q), fun j q b hb => ⟨fun z t t' => hR _ _ (((h r hr).2 j q b hb).1 z t t'), fun i z => hX _ _ (((h r hr).2 j q b hb).2 i z)⟩⟩)
  unfold CM0 CallsTo
  intros
  rename_i hret
  refine wpAny_call ?_
  k_dflt (refine' code_def ?k1 ?k2 ?k3 ?k4 ?k5 ?kA ?kF ?kK ?k6 ?k7 ?k8 ?k9 ?kB ?_ ?c2 ?c3 ?c4 ?c5; (case kA | kF => exact rfl); (case kK => first | exact rfl | assumption); (case k1 | k2 | k3 | k4 | k5 => k_asm); (case k6 | k7 => k_is); (case k8 => first | exact room_0 (by assumption) | ktr_room); (case k9 => first | exact BindsTo.of_eq rfl | exact binds_K (by k_in) rfl (by k_is) rfl rfl rfl); (case c5 => decide); (case kB => exact locs rfl); (case c2 | c3 | c4 => exact rfl); k_whole; intro g' L' h' FG' F' N' B' X' T'; (try dsimp only); (try k_fold))
  (k_steps; (try repeat' ((with_reducible refine Stop.by ?_); (first | ((first | (with_reducible show wpAny _ _ (call (Value.ref 272) _) _ _ _) | (with_reducible show wpAny _ _ (call (Value.ref 279) _) _ _ _) | (with_reducible show wpAny _ _ (call (Value.ref 359) _) _ _ _) | (with_reducible show wpAny _ _ (call (Value.ref 394) _) _ _ _)); k_dflt (refine' CM.useI ?zs ?z1 ?z2 ?z3 ?z4 ?z5 ?zK ?zd ?zu ?zc ?zU ?ze ?_; (case z1 | z2 | z3 | z4 | z5 => k_asm); (case zK => first | exact rfl | assumption); (case zc => k_mem); (case zU => k_updF); (case ze => first | with_reducible exact rfl | with_reducible exact ca1 _ | with_reducible exact caN _ _ | exact ca0); (case zs => first | exact (read_public_spec _ _ _ _ _ _ (by walk_at "zz side") (by walk_at "zz side") (by walk_at "zz side") (by walk_at "zz side") (by walk_at "zz side")) | exact (read_system_spec _ _ _ _ _ _ (by walk_at "zz side") (by walk_at "zz side") (by walk_at "zz side")) | exact (skip_spec _ _ _ _ _ _ (by walk_at "zz side") (by walk_at "zz side") _ _ (by walk_at "zz side")) | exact (need_spaces_j _ _ _ _ _ _ _ (by walk_at "zz side") (by walk_at "zz side") (by walk_at "zz side"))); (case zd => first | exact room_d (by assumption) (by exact rfl) | exact room_e (by assumption) (by exact rfl) | ktr_room); (case zu => first | exact room_u (by assumption) (by exact rfl) | exact room_v (by assumption) (by exact rfl) | exact room_x (by assumption) (by exact rfl) | exact room_w (by assumption) (by exact rfl) | exact room_y (by assumption) (by exact rfl) | ktr_units); (try dsimp only [RetV, len_0, len_1, len_2, len_3, len_4, len_5, len_6, len_7, len_8, len_9, len_10, len_11, len_12, len_13, len_14, len_15, len_16, len_17, len_18]); (with_reducible (repeat' (first | (refine And.intro ?_ ?_) | intro))); (all_goals (try dsimp only)); (all_goals (try (rename (∀ p : Addr × Obj, _ ∈ _ → @LT.lt Nat _ _ _) => zl1; k_lt zl1))); (all_goals (try contradiction)))) | ((with_reducible show wpAny _ _ (call (Value.ref 150) _) _ _ _); k_dflt (refine' CallsTo.use (sf_call _ _ _ _ _ _ _ _ _) ?z1 ?z2 ?z3 ?z4 ?z5 ?zK ?zd ?zu ?_; (case z1 | z2 | z3 | z4 | z5 => k_asm); (case zK => first | exact rfl | assumption); (case zd => first | exact room_d (by assumption) (by exact rfl) | exact room_e (by assumption) (by exact rfl) | ktr_room); (case zu => first | exact room_u (by assumption) (by exact rfl) | exact room_v (by assumption) (by exact rfl) | exact room_x (by assumption) (by exact rfl) | exact room_w (by assumption) (by exact rfl) | exact room_y (by assumption) (by exact rfl) | ktr_units); intro e' t' oe' h' tk' hX' hg' hc' hd' hM'; (try dsimp only))) | ((with_reducible show wpAny _ _ (exec (Stmt.Raise _ _ _) _) _ _ _); k_dflt (refine' raise150 ?h ?_; (case h => exact rfl); (try k_fold))) | ((with_reducible show Exists _); (rename MadeF _ _ _ _ _ _ _ _ _ => hM9); refine ⟨_, _, _, rfl, by assumption, by assumption, by assumption, by assumption, ?_⟩) | ((with_reducible show wpAny _ _ (leaving _ (Value.ref _)) _ _ _); (k_dflt first | (refine' leave_newF (hk := by rfl) ?k1 ?k2 ?_; (case k2 => assumption); (case k1 => assumption); k_whole; intro h' R' U'; (try dsimp only at R' U' ⊢)) | (refine' leave_onF ?k1 ?k2 ?k3 ?k4 ?_; (case k3 => assumption); (case k1 => assumption); (case k2 => assumption); (case k4 => assumption); k_whole; intro h' R' U'; (try dsimp only at R' U' ⊢))))); k_steps)))
  all_goals (dsimp only [RetV, SysPost] at hret; rename Fst _ _ _ _ => hF)
  · (refine' excB ((hret _ hF).1 (by assumption) _) ?R rfl ?U ?F; (case R => assumption); (case U => assumption); (case F => assumption))
  · rename BadAt _ _ => hB
    rename _ ∧ _ ∧ AllLt _ _ => l9
    exact ((hret _ hF).2 _ (by assumption) _ hB).1 (by assumption) _ _ _ _ (fun p hp => kst_ltOf (l := (_, _) :: (_, _) :: _) l9 p hp) _ _ (by assumption) (by assumption)
  · rename BadAt _ _ => hB
    (refine' excB (((hret _ hF).2 _ (by assumption) _ hB).2 _ (by assumption) _) ?R rfl ?U ?F; (case R => assumption); (case U => assumption); (case F => assumption))
end Mine
end -- P8
section -- P9
namespace Mine
section
variable {prog : Program} {w : World} {A : Around} {E : Value → Shared → Prop} {s : Shared} {env : Env} {h₀ : Heap} {x p e : Str} {body : List Stmt} {Q : Flow → Shared → Prop}
/-- the map of the frame in a loop over signs: the sign, the place, the end -/
noncomputable abbrev sgM (x p e : Str) (m₀ : Str → Option Value) (ux up ue : Option Value) : Str → Option Value := fun y => if y = x then ux else if y = p then up else if y = e then ue else m₀ y
noncomputable def SgJ (x p e : Str) (m₀ : Str → Option Value) (news : List (Addr × Obj)) (P : Nat → Prop) (m : Str → Option Value) (nx : List (Addr × Obj)) : Prop :=
  nx = news ∧ ∃ (j : Nat) (tj : Tok), m e = some (.int (j : Int) tj) ∧ (∀ z, z ≠ x → z ≠ p → z ≠ e → m z = m₀ z) ∧ P j
noncomputable abbrev SgPost (h₀ : Heap) (L : Addr) (x p e : Str) (m₀ : Str → Option Value) (news own : List (Addr × Obj)) (P : Nat → Prop) (s₁ : Shared) (Q : Flow → Shared → Prop) : Flow → Shared → Prop :=
  InvPostN h₀ L (SgJ x p e m₀ news P) own (news.map (·.1)) s₁ Q
theorem sg_end {L : Addr} {m₀ : Str → Option Value} {news own nx : List (Addr × Obj)} {P : Nat → Prop} {s₁ : Shared} {h' : Heap} {tk : Nat} {m' : Str → Option Value} (j : Nat) {tj : Tok} (F : Fr h₀ L h' m') (N : News h₀ L h' nx) (hs : ∀ p ∈ news ++ own, p ∈ nx) (he : m' e = some (.int (j : Int) tj)) (hm : ∀ z, z ≠ x → z ≠ p → z ≠ e → m' z = m₀ z) (hp : P j) :
    SgPost h₀ L x p e m₀ news own P s₁ Q .next { s₁ with heap := h', toks := tk } := ⟨h', tk, m', nx, news, rfl, F, N, fun p hp => hs p (List.mem_append_left _ hp), fun p hp => hs p (List.mem_append_right _ hp), rfl, rfl, j, tj, he, hm, hp⟩
theorem sgM_eq {m m₀ : Str → Option Value} {v : Option Value} (he : m e = v) (hm : ∀ z, z ≠ x → z ≠ p → z ≠ e → m z = m₀ z) : m = sgM x p e m₀ (m x) (m p) v := by
  funext y
  by_cases h : y = x
  · rw [h]; exact (if_pos rfl).symm
  · by_cases h2 : y = p
    · rw [h2]; exact ((if_neg (h2 ▸ h)).trans (if_pos rfl)).symm
    · by_cases h3 : y = e
      · rw [h3, he]; exact ((if_neg (h3 ▸ h)).trans ((if_neg (h3 ▸ h2)).trans (if_pos rfl))).symm
      · exact (hm y h h2 h3).trans ((if_neg h).trans ((if_neg h2).trans (if_neg h3))).symm
theorem iter_sg {X : Str} {tX : Tok} (ha : X.cps.all (· < 128) = true) {m₀ : Str → Option Value} {news : List (Addr × Obj)} (P : Nat → Nat → Prop) (j₀ : Nat) {tj : Tok} (hh : A.handled = none)
    (F : Fr h₀ env.locals s.heap m₀) (N : News h₀ env.locals s.heap news) (he : m₀ e = some (.int (j₀ : Int) tj)) (hP : P 0 j₀)
    (turn : ∀ (i c j : Nat) t tj ux up h tk own, X.cps[i]? = some c → OwnOff own (news.map (·.1)) → P i j → Fr h₀ env.locals h (fun y => if y = x then some (.str ⟨#[c]⟩ t) else sgM x p e m₀ ux up (some (.int (j : Int) tj)) y) → News h₀ env.locals h (news ++ own) →
      wpAny (model prog w) A (execs body env) (SgPost h₀ env.locals x p e m₀ news own (P (i + 1)) { s with heap := h, toks := tk } Q) E { s with heap := h, toks := tk })
    (done : ∀ (j : Nat) tj (ux up : Option Value) h tk, P X.cps.size j → Fr h₀ env.locals h (sgM x p e m₀ ux up (some (.int (j : Int) tj))) → News h₀ env.locals h news → Q .next { s with heap := h, toks := tk })
    (hxe : e ≠ x) (hpe : e ≠ p) :
    wpAny (model prog w) A (pyIter (.str X tX)) (fun it s₂ => LoopAtV prog w A h₀ env x body Q E it s₂) E s := by
  refine wpAny_pyIter_ascii ha ?_
  have nI : ∀ q ∈ news, q.1 ∉ [s.heap.objs.size] := fun q hq hI => absurd (Heap.lt_size (N q hq).1) ((List.mem_singleton.mp hI) ▸ Nat.lt_irrefl _)
  refine loop_invN (fun i => SgJ x p e m₀ news (P i)) (Walks.strAscii (prog := prog) (w := w) hh s.heap.objs.size X tX) (fun hm => absurd F.ns.lt ((List.mem_singleton.mp hm) ▸ Nat.lt_irrefl _)) (fun b hb => List.mem_singleton.mp hb ▸ next_is_new F) nI nI
    ⟨_, Heap.get?_push_size _ rfl, rfl, rfl⟩ (F.push _) (fun p hp => ⟨Heap.get?_push_of_some _ (N p hp).1, (N p hp).2⟩) ⟨rfl, j₀, tj, he, fun _ _ _ _ => rfl, hP⟩ ?_ ?_
  · rintro i v m₁ nx h tk own hin ⟨c, t, hc, rfl⟩ - ho ⟨rfl, j, tj, r⟩ F' N'
    rw [sgM_eq r.1 r.2.1] at F'
    exact turn i c j t tj _ _ h tk own hc ho r.2.2 F' N'
  · rintro m₁ nx h tk ⟨rfl, j, tj, r⟩ F' N'
    rw [sgM_eq r.1 r.2.1] at F'
    exact done j tj _ _ h tk r.2.2 F' N'
end
theorem gives_str_find_range (x y : Str) (i j : Int) (t u v z : Tok) : Gives (Builtin.«str.find» ⟨[.str x t, .str y u, .int i v, .int j z], []⟩) (.int (find4 x y i j)) := by
  unfold find4
  show Gives (match Builtin.Str.occurrences x y (fromIndex x.length i) (min (fromIndex x.length j) x.length) 1 with | k :: _ => retInt k | [] => (do rule "str.find.not-found"; retInt (-1))) _
  cases Builtin.Str.occurrences x y (fromIndex x.length i) (min (fromIndex x.length j) x.length) 1 with
  | nil => exact .rule (.of_eq rfl)
  | cons k _ => exact .of_eq rfl
theorem call_find4 {prog : Program} {w : World} {A : Around} {E : Value → Shared → Prop} {s : Shared} {x y : Str} {t u v z : Tok} {i j : Int} {Q : Value → Shared → Prop}
    (hq : Q (.int (find4 x y i j) s.toks) { s with toks := s.toks + 1 }) : wpAny (model prog w) A (call (.builtin "str.find") [.str x t, .str y u, .int i v, .int j z]) Q E s :=
  call_gives F.slot_str_find (typeIs_str _ _ _) F.entry_str_find (F.args_str_find_4 _ _ _ _) (gives_str_find_range x y i j t u v z) hq
local macro_rules | `(tactic| walk_at "call builtin:str.find") => `(tactic| (k_here; (with_reducible show wpAny _ _ (call (Value.builtin "str.find") [Value.str _ _, Value.str _ _, Value.int _ _, Value.int _ _]) _ _ _); refine Stop.at ?_))
local macro_rules | `(tactic| walk_at "exec For Name Name cons nil") => `(tactic| (k_here; refine Stop.at ?_))
local macro_rules | `(tactic| walk_at "pyIter str") => `(tactic| (k_here; refine Stop.at ?_))
noncomputable def isStop (c : Nat) : Bool := c == 93 || c == 34 || c == 39 || c == 60
noncomputable def Ahead (T : Str) (k j : Nat) : Prop := k ≤ j ∧ j ≤ T.length ∧ (∀ i, k ≤ i → i < j → isStop (ch T i) = false) ∧ (j < T.length → isStop (ch T j) = true)
theorem stop_iff (c : Nat) : isStop c = true ↔ ∃ n, n < (Str.ofString "]\"'<").cps.size ∧ (Str.ofString "]\"'<").cps[n]? = some c := by
  rw [show Str.ofString "]\"'<" = ⟨#[93, 34, 39, 60]⟩ by decide +kernel]
  constructor
  · intro h
    simp only [isStop, Bool.or_eq_true, beq_iff_eq] at h
    rcases h with ((h | h) | h) | h
    · exact ⟨0, by decide, by rw [h]; rfl⟩
    · exact ⟨1, by decide, by rw [h]; rfl⟩
    · exact ⟨2, by decide, by rw [h]; rfl⟩
    · exact ⟨3, by decide, by rw [h]; rfl⟩
  · rintro ⟨n, hn, h⟩
    have hn : n < 4 := hn
    rcases n with _ | _ | _ | _ | n
    · have : c = 93 := (Option.some.inj h).symm
      rw [this]; rfl
    · have : c = 34 := (Option.some.inj h).symm
      rw [this]; rfl
    · have : c = 39 := (Option.some.inj h).symm
      rw [this]; rfl
    · have : c = 60 := (Option.some.inj h).symm
      rw [this]; rfl
    · (first | lia | omega)
/-- the first place from k on where one of W's signs stands, or the end -/
noncomputable abbrev AheadG (T W : Str) (k i j : Nat) : Prop := k ≤ j ∧ j ≤ T.length ∧ (∀ v, k ≤ v → v < j → ∀ n, n < i → W.cps[n]? ≠ some (ch T v)) ∧ (j < T.length → ∃ n, n < i ∧ W.cps[n]? = some (ch T j))
set_option maxHeartbeats 8000000 in
theorem ahead_gen (w mean mg mb) (T W : Str) (k : Nat) (tw : CTok) (ha : W.cps.all (· < 128) = true) (hT : T.length ≤ 1000) (hk : k ≤ T.length) : CM w mean mg mb 2 380 T k [.str W tw] fun R X => ∀ j, AheadG T W k W.cps.size j → ∀ t, R (.val (.str (sub T k j) t)) j := by
  refine CM.of ?_ (by intro R R' X X' hR hX h; exact fun j q t => hR _ _ (h j q t))
  unfold CM0 CallsTo
  intros
  rename_i hret
  refine wpAny_call ?_
  k_dflt (refine' code_def ?k1 ?k2 ?k3 ?k4 ?k5 ?kA ?kF ?kK ?k6 ?k7 ?k8 ?k9 ?kB ?_ ?c2 ?c3 ?c4 ?c5; (case kA | kF => exact rfl); (case kK => first | exact rfl | assumption); (case k1 | k2 | k3 | k4 | k5 => k_asm); (case k6 | k7 => k_is); (case k8 => first | exact room_0 (by assumption) | ktr_room); (case k9 => first | exact BindsTo.of_eq rfl | exact binds_K (by k_in) rfl (by k_is) rfl rfl rfl); (case c5 => decide); (case kB => exact locs rfl); (case c2 | c3 | c4 => exact rfl); k_whole; intro g' L' h' FG' F' N' B' X' T'; (try dsimp only); (try k_fold))
  (k_steps; (try repeat' ((with_reducible refine Stop.by ?_); (first | ((with_reducible show wpAny _ _ (call (Value.builtin "str.find") [Value.str _ _, Value.str _ _, Value.int _ _, Value.int _ _]) _ _ _); k_dflt (refine call_find4 ?_; (try dsimp only))) | ((with_reducible show wpAny _ _ (call (Value.ref 150) _) _ _ _); k_dflt (refine' CallsTo.use (sf_call _ _ _ _ _ _ _ _ _) ?z1 ?z2 ?z3 ?z4 ?z5 ?zK ?zd ?zu ?_; (case z1 | z2 | z3 | z4 | z5 => k_asm); (case zK => first | exact rfl | assumption); (case zd => first | exact room_d (by assumption) (by exact rfl) | exact room_e (by assumption) (by exact rfl) | ktr_room); (case zu => first | exact room_u (by assumption) (by exact rfl) | exact room_v (by assumption) (by exact rfl) | exact room_x (by assumption) (by exact rfl) | exact room_w (by assumption) (by exact rfl) | exact room_y (by assumption) (by exact rfl) | ktr_units); intro e' t' oe' h' tk' hX' hg' hc' hd' hM'; (try dsimp only))) | ((with_reducible show wpAny _ _ (exec (Stmt.Raise _ _ _) _) _ _ _); k_dflt (refine' raise150 ?h ?_; (case h => exact rfl); (try k_fold))) | ((with_reducible show Exists _); (rename MadeF _ _ _ _ _ _ _ _ _ => hM9); refine ⟨_, _, _, rfl, by assumption, by assumption, by assumption, by assumption, ?_⟩) | ((with_reducible show wpAny _ _ (leaving _ (Value.ref _)) _ _ _); (k_dflt first | (refine' leave_newF (hk := by rfl) ?k1 ?k2 ?_; (case k2 => assumption); (case k1 => assumption); k_whole; intro h' R' U'; (try dsimp only at R' U' ⊢)) | (refine' leave_onF ?k1 ?k2 ?k3 ?k4 ?_; (case k3 => assumption); (case k1 => assumption); (case k2 => assumption); (case k4 => assumption); k_whole; intro h' R' U'; (try dsimp only at R' U' ⊢)))) | ((with_reducible show wpAny _ _ (subscriptTail _ _ (Value.str _ _) (Value.int _ _)) _ _ _); (k_dflt (refine' item_at ?hs ?h2 ?_ (by with_unfolding_all rfl) (by intro _; with_unfolding_all rfl); (case hs => omega); (case h2 => omega); (try dsimp only))))); k_steps)))
  refine Stop.by ?_
  rename Fr _ _ _ _ => lF
  refine For_invVF lF ?k1 ?k2 ?_
  case k1 => exact rfl
  case k2 => exact rfl
  (k_steps; (try repeat' ((with_reducible refine Stop.by ?_); (first | ((with_reducible show wpAny _ _ (call (Value.builtin "str.find") [Value.str _ _, Value.str _ _, Value.int _ _, Value.int _ _]) _ _ _); k_dflt (refine call_find4 ?_; (try dsimp only))) | ((with_reducible show wpAny _ _ (call (Value.ref 150) _) _ _ _); k_dflt (refine' CallsTo.use (sf_call _ _ _ _ _ _ _ _ _) ?z1 ?z2 ?z3 ?z4 ?z5 ?zK ?zd ?zu ?_; (case z1 | z2 | z3 | z4 | z5 => k_asm); (case zK => first | exact rfl | assumption); (case zd => first | exact room_d (by assumption) (by exact rfl) | exact room_e (by assumption) (by exact rfl) | ktr_room); (case zu => first | exact room_u (by assumption) (by exact rfl) | exact room_v (by assumption) (by exact rfl) | exact room_x (by assumption) (by exact rfl) | exact room_w (by assumption) (by exact rfl) | exact room_y (by assumption) (by exact rfl) | ktr_units); intro e' t' oe' h' tk' hX' hg' hc' hd' hM'; (try dsimp only))) | ((with_reducible show wpAny _ _ (exec (Stmt.Raise _ _ _) _) _ _ _); k_dflt (refine' raise150 ?h ?_; (case h => exact rfl); (try k_fold))) | ((with_reducible show Exists _); (rename MadeF _ _ _ _ _ _ _ _ _ => hM9); refine ⟨_, _, _, rfl, by assumption, by assumption, by assumption, by assumption, ?_⟩) | ((with_reducible show wpAny _ _ (leaving _ (Value.ref _)) _ _ _); (k_dflt first | (refine' leave_newF (hk := by rfl) ?k1 ?k2 ?_; (case k2 => assumption); (case k1 => assumption); k_whole; intro h' R' U'; (try dsimp only at R' U' ⊢)) | (refine' leave_onF ?k1 ?k2 ?k3 ?k4 ?_; (case k3 => assumption); (case k1 => assumption); (case k2 => assumption); (case k4 => assumption); k_whole; intro h' R' U'; (try dsimp only at R' U' ⊢)))) | ((with_reducible show wpAny _ _ (subscriptTail _ _ (Value.str _ _) (Value.int _ _)) _ _ _); (k_dflt (refine' item_at ?hs ?h2 ?_ (by with_unfolding_all rfl) (by intro _; with_unfolding_all rfl); (case hs => omega); (case h2 => omega); (try dsimp only))))); k_steps)))
  refine Stop.by ?_
  rename News _ _ _ _ => lN
  refine' iter_sg (p := Str.ofString "place") (e := Str.ofString "end") ?ha (fun i j => AheadG T W k i j) T.length ?hh ?F ?N ?he ⟨hk, Nat.le_refl _, fun _ _ _ n hn => absurd hn (by (first | lia | omega)), fun h => absurd h (by (first | lia | omega))⟩ ?turn ?done ?hx ?hp
  case ha => exact ha
  case hh => exact rfl
  case F => exact lF
  case N => exact lN
  case he => exact rfl
  case hx => decide +kernel
  case hp => decide +kernel
  · clear lF lN
    intro i c j t tj ux up h tk own hc ho ⟨hj1, hj2, hj3, hj4⟩ cF cN
    (try simp only [sgM] at cF)
    rcases find4_nat T c (b := k) hj2 with ⟨hf, hn⟩ | ⟨k', hf, g1, g2, g3, g4⟩
    · (k_steps; (try repeat' ((with_reducible refine Stop.by ?_); ((with_reducible show wpAny _ _ (call (Value.builtin "str.find") [Value.str _ _, Value.str _ _, Value.int _ _, Value.int _ _]) _ _ _); k_dflt (refine call_find4 ?_; (try dsimp only))); k_steps)))
      have n1 : Str.ofString "end" ≠ Str.ofString "place" := by decide +kernel
      have n2 : Str.ofString "end" ≠ Str.ofString "sign" := by decide +kernel
      exact sg_end j (by assumption) (by assumption) (fun p hp => hp) ((if_neg n1).trans ((if_neg n2).trans ((if_neg n2).trans ((if_neg n1).trans (if_pos rfl))))) (fun z z1 z2 z3 => by simp only [sgM, if_neg z1, if_neg z2, if_neg z3]) ⟨hj1, hj2, fun v a b m hm q => (Nat.lt_or_ge m i).elim (fun r => hj3 v a b m r q) (fun r => hn v a b (by rw [show m = i by (first | lia | omega), hc] at q; exact (Option.some.inj q).symm)), fun r => let ⟨m, hm, e⟩ := hj4 r; ⟨m, by (first | lia | omega), e⟩⟩
    · (k_steps; (try repeat' ((with_reducible refine Stop.by ?_); ((with_reducible show wpAny _ _ (call (Value.builtin "str.find") [Value.str _ _, Value.str _ _, Value.int _ _, Value.int _ _]) _ _ _); k_dflt (refine call_find4 ?_; (try dsimp only))); k_steps)))
      have n1 : Str.ofString "end" ≠ Str.ofString "place" := by decide +kernel
      have n2 : Str.ofString "end" ≠ Str.ofString "sign" := by decide +kernel
      exact sg_end k' (by assumption) (by assumption) (fun p hp => hp) ((if_pos rfl).trans (congrArg (fun z => some (Value.int z _)) hf)) (fun z z1 z2 z3 => by simp only [sgM, if_neg z1, if_neg z2, if_neg z3]) ⟨g1, by (first | lia | omega), fun v a b m hm q => (Nat.lt_or_ge m i).elim (fun r => hj3 v a (by (first | lia | omega)) m r q) (fun r => g4 v a b (by rw [show m = i by (first | lia | omega), hc] at q; exact (Option.some.inj q).symm)), fun _ => ⟨i, by (first | lia | omega), by rw [hc, g3]⟩⟩
  · clear lF lN
    intro j tj ux up h tk ⟨hj1, hj2, hj3, hj4⟩ cF cN
    (try simp only [sgM] at cF)
    k_steps
    dsimp only [RetV] at hret
    exact retB (hret j ⟨hj1, hj2, hj3, hj4⟩ _ _) (congrArg (fun x => Value.str x _) (slice_nat T hj1 hj2)) (by assumption) (by assumption)
theorem ahead_spec (w mean mg mb) (T : Str) (k : Nat) (tw : CTok) (hT : T.length ≤ 1000) (hk : k ≤ T.length) : CM w mean mg mb 2 380 T k [.str (Str.ofString "]\"'<") tw] fun R X => ∀ j, Ahead T k j → ∀ S t, R (.val (.str S t)) j :=
  CM.imp (ahead_gen w mean mg mb T _ k tw (by decide +kernel) hT hk) fun R X h j ⟨hj1, hj2, hj3, hj4⟩ t => h j ⟨hj1, hj2, fun i a b => by
    cases hs : isStop (ch T i) with
    | false => rfl
    | true =>
      obtain ⟨n, hn, e⟩ := (stop_iff _).mp hs
      exact absurd e (hj3 i a b n hn), fun r => (stop_iff _).mpr (hj4 r)⟩ _ t
end Mine
end -- P9
section -- Pa
namespace Mine
inductive Br (T : Str) (b : Nat) : Nat → Bool → Nat → Prop
  | over {a} : T.length ≤ a → Br T b a false b
  | close {a} : a < T.length → ch T a = 93 → Br T b a true a
  | com0 {a} : Hit T (Str.ofString "<!--") a → Fst T (Str.ofString "-->") (a + 4) none → Br T b a false (a + 4)
  | com {a j ok p} : Hit T (Str.ofString "<!--") a → Fst T (Str.ofString "-->") (a + 4) (some j) → Br T b (j + 3) ok p → Br T b a ok p
  | ins0 {a} : ¬ Hit T (Str.ofString "<!--") a → Hit T (Str.ofString "<?") a → Fst T (Str.ofString "?>") (a + 2) none → Br T b a false (a + 2)
  | ins {a j ok p} : ¬ Hit T (Str.ofString "<!--") a → Hit T (Str.ofString "<?") a → Fst T (Str.ofString "?>") (a + 2) (some j) → Br T b (j + 2) ok p → Br T b a ok p
  | quo0 {a} : a < T.length → ch T a = 34 ∨ ch T a = 39 → Fst T ⟨#[ch T a]⟩ (a + 1) none → Br T b a false (a + 1)
  | quo {a j ok p} : a < T.length → ch T a = 34 ∨ ch T a = 39 → Fst T ⟨#[ch T a]⟩ (a + 1) (some j) → Br T b (j + 1) ok p → Br T b a ok p
  | plain {a ok p} : a < T.length → ch T a ≠ 93 → ch T a ≠ 34 → ch T a ≠ 39 → ¬ Hit T (Str.ofString "<!--") a → ¬ Hit T (Str.ofString "<?") a → Br T b (a + 1) ok p → Br T b a ok p
theorem hit_com {T : Str} {a : Nat} (h : Hit T (Str.ofString "<!--") a) : ch T a = 60 := by
  rw [show Str.ofString "<!--" = ⟨[60, 33, 45, 45].toArray⟩ by decide +kernel] at h
  exact (hit_cons.mp h).1.2
theorem hit_ins {T : Str} {a : Nat} (h : Hit T (Str.ofString "<?") a) : ch T a = 60 := by
  rw [show Str.ofString "<?" = ⟨[60, 63].toArray⟩ by decide +kernel] at h
  exact (hit_cons.mp h).1.2
theorem hit_lt {T : Str} {a : Nat} : Hit T (Str.ofString "<") a ↔ a < T.length ∧ ch T a = 60 := by
  rw [show Str.ofString "<" = ⟨#[60]⟩ by decide +kernel]
  exact hit_one
theorem hit_br {T : Str} {a : Nat} : Hit T (Str.ofString "]") a ↔ a < T.length ∧ ch T a = 93 := by
  rw [show Str.ofString "]" = ⟨#[93]⟩ by decide +kernel]
  exact hit_one
theorem Br.ahead {T : Str} {b : Nat} {ok : Bool} {p : Nat} : ∀ (n a j : Nat), j = a + n → j ≤ T.length → (∀ i, a ≤ i → i < j → isStop (ch T i) = false) → Br T b j ok p → Br T b a ok p
  | 0, a, j, e, _, _, h => by
    have : j = a := by (first | lia | omega)
    exact this ▸ h
  | n + 1, a, j, e, hl, hs, h => by
    have h0 := hs a (Nat.le_refl _) (by (first | lia | omega))
    simp only [isStop, Bool.or_eq_false_iff, beq_eq_false_iff_ne, ne_eq] at h0
    exact .plain (by (first | lia | omega)) h0.1.1.1 h0.1.1.2 h0.1.2 (fun q => h0.2 (hit_com q)) (fun q => h0.2 (hit_ins q)) (Br.ahead n (a + 1) j (by (first | lia | omega)) hl (fun i h1 h2 => hs i (by (first | lia | omega)) h2) h)
theorem Ahead.br {T : Str} {b a j : Nat} {ok : Bool} {p : Nat} (h : Ahead T a j) (r : Br T b j ok p) : Br T b a ok p := Br.ahead (j - a) a j (by have := h.1; (first | lia | omega)) h.2.1 h.2.2.1 r
theorem quoted_at (w mean mg mb) (T : Str) (k : Nat) (hT : T.length ≤ 1000) (hk : k < T.length) (hs : isStop (ch T k) = true) (h1 : ¬ Hit T (Str.ofString "<") k) (h2 : ¬ Hit T (Str.ofString "]") k) :
    CM w mean mg mb 7 408 T k [] fun R X => (ch T k = 34 ∨ ch T k = 39) → ∀ r, Fst T ⟨#[ch T k]⟩ (k + 1) r → (∀ j, r = some j → ∀ t t', R (.tup [.str (sub T (k + 1) j) t, .int (k + 1 : Nat) t']) (j + 1)) ∧ (r = none → X (k + 1) (k + 1)) := by
  have hq : ch T k = 34 ∨ ch T k = 39 := by
    simp only [isStop, Bool.or_eq_true, beq_iff_eq] at hs
    rcases hs with ((h | h) | h) | h
    · exact absurd (hit_br.mpr ⟨hk, h⟩) h2
    · exact .inl h
    · exact .inr h
    · exact absurd (hit_lt.mpr ⟨hk, h⟩) h1
  exact CM.imp (quoted_spec w mean mg mb T k _ hT hk rfl hq) fun R X h r hr => h hq r hr
set_option maxHeartbeats 16000000 in
theorem read_inner_spec (w mean mg mb) (T : Str) (k : Nat) (hT : T.length ≤ 1000) (hk : k ≤ T.length) : CM w mean mg mb 8 293 T k [] fun R X => ∀ ok p, Br T k k ok p → (ok = true → ∀ t, R (.val (.str (sub T k p) t)) (p + 1)) ∧ (ok = false → ∀ k', X p k') := by
  refine CM.of ?_ (by intro R R' X X' hR hX h; exact fun ok p hb => ⟨fun q t => hR _ _ ((h ok p hb).1 q t), fun q k' => hX _ _ ((h ok p hb).2 q k')⟩)
  unfold CM0 CallsTo
  intros
  rename_i hret
  refine wpAny_call ?_
  k_dflt (refine' code_def ?k1 ?k2 ?k3 ?k4 ?k5 ?kA ?kF ?kK ?k6 ?k7 ?k8 ?k9 ?kB ?_ ?c2 ?c3 ?c4 ?c5; (case kA | kF => exact rfl); (case kK => first | exact rfl | assumption); (case k1 | k2 | k3 | k4 | k5 => k_asm); (case k6 | k7 => k_is); (case k8 => first | exact room_0 (by assumption) | ktr_room); (case k9 => first | exact BindsTo.of_eq rfl | exact binds_K (by k_in) rfl (by k_is) rfl rfl rfl); (case c5 => decide); (case kB => exact locs rfl); (case c2 | c3 | c4 => exact rfl); k_whole; intro g' L' h' FG' F' N' B' X' T'; (try dsimp only); (try k_fold))
  (k_steps; (try repeat' ((with_reducible refine Stop.by ?_); (first | ((with_reducible show wpAny _ _ (call (Value.ref 150) _) _ _ _); k_dflt (refine' CallsTo.use (sf_call _ _ _ _ _ _ _ _ _) ?z1 ?z2 ?z3 ?z4 ?z5 ?zK ?zd ?zu ?_; (case z1 | z2 | z3 | z4 | z5 => k_asm); (case zK => first | exact rfl | assumption); (case zd => first | exact room_d (by assumption) (by exact rfl) | exact room_e (by assumption) (by exact rfl) | ktr_room); (case zu => first | exact room_u (by assumption) (by exact rfl) | exact room_v (by assumption) (by exact rfl) | exact room_x (by assumption) (by exact rfl) | exact room_w (by assumption) (by exact rfl) | exact room_y (by assumption) (by exact rfl) | ktr_units); intro e' t' oe' h' tk' hX' hg' hc' hd' hM'; (try dsimp only))) | ((with_reducible show wpAny _ _ (exec (Stmt.Raise _ _ _) _) _ _ _); k_dflt (refine' raise150 ?h ?_; (case h => exact rfl); (try k_fold))) | ((with_reducible show Exists _); (rename MadeF _ _ _ _ _ _ _ _ _ => hM9); refine ⟨_, _, _, rfl, by assumption, by assumption, by assumption, by assumption, ?_⟩) | ((with_reducible show wpAny _ _ (leaving _ (Value.ref _)) _ _ _); (k_dflt first | (refine' leave_newF (hk := by rfl) ?k1 ?k2 ?_; (case k2 => assumption); (case k1 => assumption); k_whole; intro h' R' U'; (try dsimp only at R' U' ⊢)) | (refine' leave_onF ?k1 ?k2 ?k3 ?k4 ?_; (case k3 => assumption); (case k1 => assumption); (case k2 => assumption); (case k4 => assumption); k_whole; intro h' R' U'; (try dsimp only at R' U' ⊢)))) | ((with_reducible show wpAny _ _ (subscriptTail _ _ (Value.str _ _) (Value.int _ _)) _ _ _); (k_dflt (refine' item_at ?hs ?h2 ?_ (by with_unfolding_all rfl) (by intro _; with_unfolding_all rfl); (case hs => omega); (case h2 => omega); (try dsimp only))))); k_steps)))
  refine Stop.by ?_
  rename Fr _ _ _ _ => lF
  rename News _ _ _ _ => lN
  refine whl_keep (hE := by passes_own) (σ := Nat × CTok) (fun c => [(_, instObj 418 _), (_, curD w.params _ T _ _ (c.1 : Nat) c.2)] ++ _) (fun c => k ≤ c.1 ∧ c.1 ≤ T.length ∧ ∀ ok p, Br T k c.1 ok p → Br T k k ok p) (fun c => T.length - c.1) ⟨k, _⟩ lF lN ⟨Nat.le_refl _, hk, fun _ _ h => h⟩ ?_
  rintro ⟨a, ta⟩ h tk ⟨hka, ha, hB⟩ cF cN
  clear lF lN
  (try dsimp only at cN hka ha hB)
  (k_steps; (try repeat' ((with_reducible refine Stop.by ?_); (first | ((first | (with_reducible show wpAny _ _ (call (Value.ref 408) _) _ _ _) | (with_reducible show wpAny _ _ (call (Value.ref 373) _) _ _ _) | (with_reducible show wpAny _ _ (call (Value.ref 352) _) _ _ _) | (with_reducible show wpAny _ _ (call (Value.ref 337) _) _ _ _) | (with_reducible show wpAny _ _ (call (Value.ref 322) _) _ _ _) | (with_reducible show wpAny _ _ (call (Value.ref 380) _) _ _ _)); k_dflt (refine' CM.useI ?zs ?z1 ?z2 ?z3 ?z4 ?z5 ?zK ?zd ?zu ?zc ?zU ?ze ?_; (case z1 | z2 | z3 | z4 | z5 => k_asm); (case zK => first | exact rfl | assumption); (case zc => k_mem); (case zU => k_updF); (case ze => first | with_reducible exact rfl | with_reducible exact ca1 _ | with_reducible exact caN _ _ | exact ca0); (case zs => first | exact (quoted_at _ _ _ _ _ _ (by walk_at "zz side") (by walk_at "zz side") (by walk_at "zz side") (by walk_at "zz side") (by walk_at "zz side")) | exact (until_spec _ _ _ _ _ _ (by walk_at "zz side") (by walk_at "zz side") _ _ (by walk_at "zz side")) | exact (take1_spec _ _ _ _ _ _ (by walk_at "zz side") (by walk_at "zz side")) | exact (take_spec _ _ _ _ _ _ _ _ (by walk_at "zz side") (by walk_at "zz side")) | exact (looks_spec _ _ _ _ _ _ (by walk_at "zz side") (by walk_at "zz side") _ _) | exact (is_over_spec _ _ _ _ _ _ (by walk_at "zz side")) | exact (ahead_spec _ _ _ _ _ _ _ (by walk_at "zz side") (by walk_at "zz side"))); (case zd => first | exact room_d (by assumption) (by exact rfl) | exact room_e (by assumption) (by exact rfl) | ktr_room); (case zu => first | exact room_u (by assumption) (by exact rfl) | exact room_v (by assumption) (by exact rfl) | exact room_x (by assumption) (by exact rfl) | exact room_w (by assumption) (by exact rfl) | exact room_y (by assumption) (by exact rfl) | ktr_units); (try dsimp only [RetV, len_0, len_1, len_2, len_3, len_4, len_5, len_6, len_7, len_8, len_9, len_10, len_11, len_12, len_13, len_14, len_15, len_16, len_17, len_18]); (with_reducible (repeat' (first | (refine And.intro ?_ ?_) | intro))); (all_goals (try dsimp only)); (all_goals (try (rename (∀ p : Addr × Obj, _ ∈ _ → @LT.lt Nat _ _ _) => zl1; k_lt zl1))); (all_goals (try contradiction)))) | ((with_reducible show wpAny _ _ (call (Value.ref 150) _) _ _ _); k_dflt (refine' CallsTo.use (sf_call _ _ _ _ _ _ _ _ _) ?z1 ?z2 ?z3 ?z4 ?z5 ?zK ?zd ?zu ?_; (case z1 | z2 | z3 | z4 | z5 => k_asm); (case zK => first | exact rfl | assumption); (case zd => first | exact room_d (by assumption) (by exact rfl) | exact room_e (by assumption) (by exact rfl) | ktr_room); (case zu => first | exact room_u (by assumption) (by exact rfl) | exact room_v (by assumption) (by exact rfl) | exact room_x (by assumption) (by exact rfl) | exact room_w (by assumption) (by exact rfl) | exact room_y (by assumption) (by exact rfl) | ktr_units); intro e' t' oe' h' tk' hX' hg' hc' hd' hM'; (try dsimp only))) | ((with_reducible show wpAny _ _ (exec (Stmt.Raise _ _ _) _) _ _ _); k_dflt (refine' raise150 ?h ?_; (case h => exact rfl); (try k_fold))) | ((with_reducible show Exists _); (rename MadeF _ _ _ _ _ _ _ _ _ => hM9); refine ⟨_, _, _, rfl, by assumption, by assumption, by assumption, by assumption, ?_⟩) | ((with_reducible show wpAny _ _ (leaving _ (Value.ref _)) _ _ _); (k_dflt first | (refine' leave_newF (hk := by rfl) ?k1 ?k2 ?_; (case k2 => assumption); (case k1 => assumption); k_whole; intro h' R' U'; (try dsimp only at R' U' ⊢)) | (refine' leave_onF ?k1 ?k2 ?k3 ?k4 ?_; (case k3 => assumption); (case k1 => assumption); (case k2 => assumption); (case k4 => assumption); k_whole; intro h' R' U'; (try dsimp only at R' U' ⊢))))); k_steps)))
  all_goals (dsimp only [RetV] at hret)
  · rename Ahead _ _ _ => hA
    rename RaisedF _ _ _ _ _ _ _ _ _ => hR9
    (refine' excB ((hret false k (hB _ _ (hA.br (.over (by assumption))))).2 rfl _ _) ?R rfl ?U ?F; (case R => exact hR9); (case U => assumption); (case F => assumption))
  · rename Ahead _ _ _ => hA
    rename RaisedF _ _ _ _ _ _ _ _ _ => hR9
    rename Fst _ _ _ _ => hF
    rename _ = none => hr
    rw [hr] at hF
    (refine' excB ((hret false _ (hB _ _ (hA.br (.com0 (by assumption) hF)))).2 rfl _ _) ?R rfl ?U ?F; (case R => exact hR9); (case U => assumption); (case F => assumption))
  · rename Ahead _ _ _ => hA
    rename Fst _ _ _ _ => hF
    rename _ = some _ => hr
    rw [hr] at hF
    have g1 := hF.le
    have g2 := hA.1
    exact wk_end (σ := Nat × CTok) ⟨_, _⟩ (by assumption) (by first | assumption | exact newsTl (by assumption)) ⟨by dsimp only; (rw [len_7] at g1; (first | lia | omega)), by dsimp only; (rw [len_7] at g1; (first | lia | omega)), fun ok p h => hB ok p (hA.br (.com (by assumption) hF h))⟩ (by dsimp only; (rw [len_7] at g1; (first | lia | omega)))
  · rename Ahead _ _ _ => hA
    rename RaisedF _ _ _ _ _ _ _ _ _ => hR9
    rename Fst _ _ _ _ => hF
    rename _ = none => hr
    rw [hr] at hF
    (refine' excB ((hret false _ (hB _ _ (hA.br (.ins0 (by assumption) (by assumption) hF)))).2 rfl _ _) ?R rfl ?U ?F; (case R => exact hR9); (case U => assumption); (case F => assumption))
  · rename Ahead _ _ _ => hA
    rename Fst _ _ _ _ => hF
    rename _ = some _ => hr
    rw [hr] at hF
    have g1 := hF.le
    have g2 := hA.1
    exact wk_end (σ := Nat × CTok) ⟨_, _⟩ (by assumption) (by first | assumption | exact newsTl (by assumption)) ⟨by dsimp only; (rw [len_9] at g1; (first | lia | omega)), by dsimp only; (rw [len_9] at g1; (first | lia | omega)), fun ok p h => hB ok p (hA.br (.ins (by assumption) (by assumption) hF h))⟩ (by dsimp only; (rw [len_9] at g1; (first | lia | omega)))
  · rename Ahead _ _ _ => hA
    have g2 := hA.1
    exact wk_end (σ := Nat × CTok) ⟨_, _⟩ (by assumption) (by first | assumption | exact newsTl (by assumption)) ⟨by dsimp only; (first | lia | omega), by dsimp only; (first | lia | omega), fun ok p h => hB ok p (hA.br (.plain (by (first | lia | omega)) (fun q => absurd q (by rw [(hit_lt.mp (by assumption)).2]; decide)) (fun q => absurd q (by rw [(hit_lt.mp (by assumption)).2]; decide)) (fun q => absurd q (by rw [(hit_lt.mp (by assumption)).2]; decide)) (by assumption) (by assumption) h))⟩ (by dsimp only; (first | lia | omega))
  · rename Ahead _ _ _ => hA
    dsimp only [WkPost]
    (k_steps; (try repeat' ((with_reducible refine Stop.by ?_); ((first | (with_reducible show wpAny _ _ (call (Value.ref 408) _) _ _ _) | (with_reducible show wpAny _ _ (call (Value.ref 373) _) _ _ _) | (with_reducible show wpAny _ _ (call (Value.ref 352) _) _ _ _)); k_dflt (refine' CM.useI ?zs ?z1 ?z2 ?z3 ?z4 ?z5 ?zK ?zd ?zu ?zc ?zU ?ze ?_; (case z1 | z2 | z3 | z4 | z5 => k_asm); (case zK => first | exact rfl | assumption); (case zc => k_mem); (case zU => k_updF); (case ze => first | with_reducible exact rfl | with_reducible exact ca1 _ | with_reducible exact caN _ _ | exact ca0); (case zs => first | exact (quoted_at _ _ _ _ _ _ (by walk_at "zz side") (by walk_at "zz side") (by walk_at "zz side") (by walk_at "zz side") (by walk_at "zz side")) | exact (until_spec _ _ _ _ _ _ (by walk_at "zz side") (by walk_at "zz side") _ _ (by walk_at "zz side")) | exact (take1_spec _ _ _ _ _ _ (by walk_at "zz side") (by walk_at "zz side"))); (case zd => first | exact room_d (by assumption) (by exact rfl) | exact room_e (by assumption) (by exact rfl) | ktr_room); (case zu => first | exact room_u (by assumption) (by exact rfl) | exact room_v (by assumption) (by exact rfl) | exact room_x (by assumption) (by exact rfl) | exact room_w (by assumption) (by exact rfl) | exact room_y (by assumption) (by exact rfl) | ktr_units); (try dsimp only [RetV, len_0, len_1, len_2, len_3, len_4, len_5, len_6, len_7, len_8, len_9, len_10, len_11, len_12, len_13, len_14, len_15, len_16, len_17, len_18]); (with_reducible (repeat' (first | (refine And.intro ?_ ?_) | intro))); (all_goals (try dsimp only)); (all_goals (try (rename (∀ p : Addr × Obj, _ ∈ _ → @LT.lt Nat _ _ _) => zl1; k_lt zl1))); (all_goals (try contradiction)))); k_steps)))
    rename Hit _ _ _ => hh
    have g1 := hA.1
    have g2 := (hit_br.mp hh).1
    exact retB ((hret true _ (hB _ _ (hA.br (.close g2 (hit_br.mp hh).2)))).1 rfl _ _) (congrArg (fun x => Value.str x _) (slice_nat T (by (first | lia | omega)) (by (first | lia | omega)))) (by assumption) (by assumption)
  · rename Ahead _ _ _ => hA
    rename Fst _ _ _ _ => hF
    rename _ = some _ => hr
    rw [hr] at hF
    have g1 := hF.le
    have g2 := hA.1
    exact wk_end (σ := Nat × CTok) ⟨_, _⟩ (by assumption) (by first | assumption | exact newsTl (by assumption)) ⟨by dsimp only; (rw [show (⟨#[ch T _]⟩ : Str).length = 1 from rfl] at g1; (first | lia | omega)), by dsimp only; (rw [show (⟨#[ch T _]⟩ : Str).length = 1 from rfl] at g1; (first | lia | omega)), fun ok p h => hB ok p (hA.br (.quo (by (first | lia | omega)) (by assumption) hF h))⟩ (by dsimp only; (rw [show (⟨#[ch T _]⟩ : Str).length = 1 from rfl] at g1; (first | lia | omega)))
  · rename Ahead _ _ _ => hA
    rename RaisedF _ _ _ _ _ _ _ _ _ => hR9
    rename Fst _ _ _ _ => hF
    rename _ = none => hr
    rw [hr] at hF
    (refine' excB ((hret false _ (hB _ _ (hA.br (.quo0 (by (first | lia | omega)) (by assumption) hF)))).2 rfl _ _) ?R rfl ?U ?F; (case R => exact hR9); (case U => assumption); (case F => assumption))
end Mine
end -- Pa
section -- Pb
namespace Mine
theorem Br.le {T : Str} {b a : Nat} {ok : Bool} {p : Nat} (h : Br T b a ok p) : ok = true → a ≤ p ∧ p < T.length := by
  induction h with
  | over _ => intro q; cases q
  | close h1 _ => intro _; exact ⟨Nat.le_refl _, h1⟩
  | com0 _ _ => intro q; cases q
  | com _ h2 _ ih => intro q; have := ih q; have := h2.1; (first | lia | omega)
  | ins0 _ _ _ => intro q; cases q
  | ins _ _ h2 _ ih => intro q; have := ih q; have := h2.1; (first | lia | omega)
  | quo0 _ _ _ => intro q; cases q
  | quo _ _ h2 _ ih => intro q; have := ih q; have := h2.1; (first | lia | omega)
  | plain _ _ _ _ _ _ _ ih => intro q; have := ih q; (first | lia | omega)
/-- every sign behind n is one of a document -/
noncomputable def Good (T : Str) (n : Nat) : Prop := ∀ i, n < i → i < T.length → isCh (ch T i) = true
theorem bad_sub {T : Str} {n a p : Nat} (g : Good T n) (h1 : n < a) (h2 : a ≤ p ∧ p ≤ T.length) : BadAt (sub T a p) none := fun i hi => by
  rw [sub_len T h2.1 h2.2] at hi
  rw [sub_ch T h2.1 h2.2 hi]
  exact g _ (by (first | lia | omega)) (by (first | lia | omega))
theorem check_ok (w mean mg mb) (S : Str) (ts : CTok) (p : Nat) (tp : CTok) (hS : S.length ≤ 1000) (hB : BadAt S none) : PM w mean mg mb 6 183 [.str S ts, .int p tp] fun R _ => R .none :=
  PM.imp (check_spec w mean mg mb S ts p tp hS) fun R X h b hb => ⟨fun _ => h, fun i q => by have e := hb.only hB; rw [e] at q; cases q⟩
theorem inner_le (w mean mg mb) (T : Str) (k : Nat) (hT : T.length ≤ 1000) (hk : k ≤ T.length) : CM w mean mg mb 8 293 T k [] fun R X => ∀ ok p, Br T k k ok p → (ok = true → k ≤ p → p < T.length → ∀ t, R (.val (.str (sub T k p) t)) (p + 1)) ∧ (ok = false → ∀ k', X p k') :=
  CM.imp (read_inner_spec w mean mg mb T k hT hk) fun R X h ok p hb => ⟨fun q t => (h ok p hb).1 q (hb.le q).1 (hb.le q).2 t, (h ok p hb).2⟩
theorem Sps.only {T : Str} {k a b : Nat} (h : Sps T k a) (h' : Sps T k b) : a = b := by
  rcases Nat.lt_trichotomy a b with q | q | q
  · have h1 := h.2.2.2 (by have := h'.2.1; (first | lia | omega))
    rw [h'.2.2.1 a h.1 q] at h1; cases h1
  · exact q
  · have h1 := h'.2.2.2 (by have := h.2.1; (first | lia | omega))
    rw [h.2.2.1 b h'.1 q] at h1; cases h1
theorem Sps.le {T : Str} {k j : Nat} (h : Sps T k j) : j ≤ T.length := h.2.1
theorem spaces_j (w mean mg mb) (T : Str) (k j : Nat) (hT : T.length ≤ 1000) (hj : Sps T k j) : CM w mean mg mb 2 387 T k [] fun R X => ∀ t, R (.val (.int (j - k : Nat) t)) j :=
  CM.imp (spaces_spec w mean mg mb T k hT (by have := hj.1; have := hj.2.1; (first | lia | omega))) fun R X h j' hj' => by rw [hj'.only hj]; exact h
theorem name_a (w mean mg mb) (T : Str) (k : Nat) (hT : T.length ≤ 1000) (hk : k + 1 < T.length) (ha : ch T k = 97) (hb : ch T (k + 1) = 32) : CM w mean mg mb 4 401 T k [] fun R X => ∀ t, R (.val (.str ⟨#[97]⟩ t)) (k + 1) :=
  CM.imp (name_spec w mean mg mb T k hT hk (by rw [ha]; decide) (by rw [ha]; decide) (by rw [hb]; decide) (by rw [hb]; decide)) fun R X h t => by rw [ha]; exact h t
noncomputable abbrev OutP (T : Str) (fl : Nat → Nat → Prop) (go : Value → Value → Nat → Prop) : CPost := fun R X =>
  (∀ p k', fl p k' → X p k') ∧ (∀ v1 v2 n, go v1 v2 n → n < T.length → Sps T n n → Hit T (Str.ofString "[") n → Good T n → R (.tup [v1, v2]) n)
noncomputable abbrev DocP (T : Str) (fl : Nat → Nat → Prop) (go : Value → Value → Nat → Prop) : CPost := fun R X =>
  (∀ p k', fl p k' → X p k') ∧ (∀ v1 v2 n, go v1 v2 n → ∀ ok p, Br T (n + 1) (n + 1) ok p →
    (ok = true → ∀ q, Sps T (p + 1) q → (Hit T (Str.ofString ">") q → ∀ t0 t1 t2, R (.tup [.str (Str.ofString "doctype") t0, .str ⟨#[97]⟩ t1, v1, v2, .str (sub T (n + 1) p) t2]) (q + 1)) ∧ (¬ Hit T (Str.ofString ">") q → X q q)) ∧
    (ok = false → ∀ k', X p k'))
set_option maxHeartbeats 16000000 in
theorem read_doctype_spec (w mean mg mb) (T : Str) (fl : Nat → Nat → Prop) (go : Value → Value → Nat → Prop) (hT : T.length ≤ 1000) (h12 : 12 < T.length) (h0 : Hit T (Str.ofString "<!DOCTYPE") 0) (h9 : Sps T 9 10) (h10 : ch T 10 = 97) (h11 : ch T 11 = 32) (hs : Sps T 11 12)
    (hO : CM w mean mg mb 9 286 T 12 [] (OutP T fl go)) : CM w mean mg mb 10 300 T 0 [] (DocP T fl go) := by
  refine CM.of ?_ (by intro R R' X X' hR hX h; exact ⟨fun p k' f => hX _ _ (h.1 p k' f), fun v1 v2 n g ok p b => ⟨fun q j s => ⟨fun z t0 t1 t2 => hR _ _ (((h.2 v1 v2 n g ok p b).1 q j s).1 z t0 t1 t2), fun z => hX _ _ (((h.2 v1 v2 n g ok p b).1 q j s).2 z)⟩, fun q k' => hX _ _ ((h.2 v1 v2 n g ok p b).2 q k')⟩⟩)
  unfold CM0 CallsTo
  intros
  rename_i hret
  refine wpAny_call ?_
  k_dflt (refine' code_def ?k1 ?k2 ?k3 ?k4 ?k5 ?kA ?kF ?kK ?k6 ?k7 ?k8 ?k9 ?kB ?_ ?c2 ?c3 ?c4 ?c5; (case kA | kF => exact rfl); (case kK => first | exact rfl | assumption); (case k1 | k2 | k3 | k4 | k5 => k_asm); (case k6 | k7 => k_is); (case k8 => first | exact room_0 (by assumption) | ktr_room); (case k9 => first | exact BindsTo.of_eq rfl | exact binds_K (by k_in) rfl (by k_is) rfl rfl rfl); (case c5 => decide); (case kB => exact locs rfl); (case c2 | c3 | c4 => exact rfl); k_whole; intro g' L' h' FG' F' N' B' X' T'; (try dsimp only); (try k_fold))
  (k_steps; (try repeat' ((with_reducible refine Stop.by ?_); (first | ((with_reducible show wpAny _ _ (call (Value.ref 183) _) _ _ _); k_dflt (refine' CallsTo.use ?zs ?z1 ?z2 ?z3 ?z4 ?z5 ?zK ?zd ?zu ?_; (case z1 | z2 | z3 | z4 | z5 => k_asm); (case zK => first | exact rfl | assumption); (case zs => exact (PM.use (check_ok _ _ _ _ _ _ _ _ (by walk_at "zz side") (by walk_at "zz side")) _)); (case zd => first | exact room_d (by assumption) (by exact rfl) | exact room_e (by assumption) (by exact rfl) | ktr_room); (case zu => first | exact room_u (by assumption) (by exact rfl) | exact room_v (by assumption) (by exact rfl) | exact room_x (by assumption) (by exact rfl) | exact room_w (by assumption) (by exact rfl) | exact room_y (by assumption) (by exact rfl) | ktr_units); (try dsimp only [RetV, len_0, len_1, len_2, len_3, len_4, len_5, len_6, len_7, len_8, len_9, len_10, len_11, len_12, len_13, len_14, len_15, len_16, len_17, len_18]); (with_reducible (repeat' (first | (refine And.intro ?_ ?_) | intro))); (all_goals (try dsimp only)); (all_goals (try (rename (∀ p : Addr × Obj, _ ∈ _ → @LT.lt Nat _ _ _) => zl1; k_lt zl1))); (all_goals (try contradiction)))) | ((first | (with_reducible show wpAny _ _ (call (Value.ref 293) _) _ _ _) | (with_reducible show wpAny _ _ (call (Value.ref 359) _) _ _ _) | (with_reducible show wpAny _ _ (call (Value.ref 286) _) _ _ _) | (with_reducible show wpAny _ _ (call (Value.ref 387) _) _ _ _) | (with_reducible show wpAny _ _ (call (Value.ref 401) _) _ _ _) | (with_reducible show wpAny _ _ (call (Value.ref 394) _) _ _ _) | (with_reducible show wpAny _ _ (call (Value.ref 366) _) _ _ _)); k_dflt (refine' CM.useI ?zs ?z1 ?z2 ?z3 ?z4 ?z5 ?zK ?zd ?zu ?zc ?zU ?ze ?_; (case z1 | z2 | z3 | z4 | z5 => k_asm); (case zK => first | exact rfl | assumption); (case zc => k_mem); (case zU => k_updF); (case ze => first | with_reducible exact rfl | with_reducible exact ca1 _ | with_reducible exact caN _ _ | exact ca0); (case zs => first | exact (inner_le _ _ _ _ _ _ (by walk_at "zz side") (by walk_at "zz side")) | exact (skip_spec _ _ _ _ _ _ (by walk_at "zz side") (by walk_at "zz side") _ _ (by walk_at "zz side")) | exact (by assumption) | exact (spaces_j _ _ _ _ _ _ _ (by walk_at "zz side") (by walk_at "zz side")) | exact (spaces_spec _ _ _ _ _ _ (by walk_at "zz side") (by walk_at "zz side")) | exact (name_a _ _ _ _ _ _ (by walk_at "zz side") (by walk_at "zz side") (by walk_at "zz side") (by walk_at "zz side")) | exact (need_spaces_j _ _ _ _ _ _ _ (by walk_at "zz side") (by walk_at "zz side") (by walk_at "zz side")) | exact (expect_spec _ _ _ _ _ _ (by walk_at "zz side") (by walk_at "zz side") _ _ (by walk_at "zz side"))); (case zd => first | exact room_d (by assumption) (by exact rfl) | exact room_e (by assumption) (by exact rfl) | ktr_room); (case zu => first | exact room_u (by assumption) (by exact rfl) | exact room_v (by assumption) (by exact rfl) | exact room_x (by assumption) (by exact rfl) | exact room_w (by assumption) (by exact rfl) | exact room_y (by assumption) (by exact rfl) | ktr_units); (try dsimp only [RetV, len_0, len_1, len_2, len_3, len_4, len_5, len_6, len_7, len_8, len_9, len_10, len_11, len_12, len_13, len_14, len_15, len_16, len_17, len_18]); (with_reducible (repeat' (first | (refine And.intro ?_ ?_) | intro))); (all_goals (try dsimp only)); (all_goals (try (rename (∀ p : Addr × Obj, _ ∈ _ → @LT.lt Nat _ _ _) => zl1; k_lt zl1))); (all_goals (try contradiction)))) | ((with_reducible show wpAny _ _ (call (Value.ref 150) _) _ _ _); k_dflt (refine' CallsTo.use (sf_call _ _ _ _ _ _ _ _ _) ?z1 ?z2 ?z3 ?z4 ?z5 ?zK ?zd ?zu ?_; (case z1 | z2 | z3 | z4 | z5 => k_asm); (case zK => first | exact rfl | assumption); (case zd => first | exact room_d (by assumption) (by exact rfl) | exact room_e (by assumption) (by exact rfl) | ktr_room); (case zu => first | exact room_u (by assumption) (by exact rfl) | exact room_v (by assumption) (by exact rfl) | exact room_x (by assumption) (by exact rfl) | exact room_w (by assumption) (by exact rfl) | exact room_y (by assumption) (by exact rfl) | ktr_units); intro e' t' oe' h' tk' hX' hg' hc' hd' hM'; (try dsimp only))) | ((with_reducible show wpAny _ _ (exec (Stmt.Raise _ _ _) _) _ _ _); k_dflt (refine' raise150 ?h ?_; (case h => exact rfl); (try k_fold))) | ((with_reducible show Exists _); (rename MadeF _ _ _ _ _ _ _ _ _ => hM9); refine ⟨_, _, _, rfl, by assumption, by assumption, by assumption, by assumption, ?_⟩) | ((with_reducible show wpAny _ _ (leaving _ (Value.ref _)) _ _ _); (k_dflt first | (refine' leave_newF (hk := by rfl) ?k1 ?k2 ?_; (case k2 => assumption); (case k1 => assumption); k_whole; intro h' R' U'; (try dsimp only at R' U' ⊢)) | (refine' leave_onF ?k1 ?k2 ?k3 ?k4 ?_; (case k3 => assumption); (case k1 => assumption); (case k2 => assumption); (case k4 => assumption); k_whole; intro h' R' U'; (try dsimp only at R' U' ⊢))))); k_steps)))
  all_goals (dsimp only [RetV] at hret)
  · (refine' excB (hret.1 _ _ (by assumption) _) ?R rfl ?U ?F; (case R => assumption); (case U => assumption); (case F => assumption))
  · rename Br _ _ _ _ _ => hBr
    rename _ = true => hz
    subst hz
    rename _ ∧ _ ∧ _ ∧ AllLt _ _ => l9
    rename News _ _ _ _ => nn
    exact ((hret.2 _ _ _ (by assumption) true _ hBr).1 rfl _ (by assumption)).1 (by assumption) _ _ _ _ _ (fun p hp => kst_ltOf (l := (_, _) :: (_, _) :: _) l9.2 p hp) _ _ (by assumption) (fun p hp => nn p (sub_cons (.head _) (fun p hp => .tail _ (.tail _ hp)) p hp))
  · rename Br _ _ _ _ _ => hBr
    rename _ = true => hz
    subst hz
    rename RaisedF _ _ _ _ _ _ _ _ _ => hR9
    have hR8 := RaisedF.less hR9 (fun p hp => List.Mem.tail _ hp)
    (refine' excB (((hret.2 _ _ _ (by assumption) true _ hBr).1 rfl _ (by assumption)).2 (by assumption) _) ?R rfl ?U ?F; (case R => exact hR8); (case U => assumption); (case F => assumption))
  · rename Br _ _ _ _ _ => hBr
    rename _ = false => hz
    subst hz
    rename RaisedF _ _ _ _ _ _ _ _ _ => hR9
    have hR8 := RaisedF.less hR9 (fun p hp => List.Mem.tail _ hp)
    (refine' excB ((hret.2 _ _ _ (by assumption) false _ hBr).2 rfl _ _) ?R rfl ?U ?F; (case R => exact hR8); (case U => assumption); (case F => assumption))
end Mine
end -- Pb
section -- La
namespace Mine
noncomputable def PT (w : World) (mean : ExcName → Option Value) (mg mb : Str → Option Value) (kk : Nat) (f : Addr) (vs : List Value) (Post : (RV → Prop) → Prop) : Prop :=
  ∀ led, CallsTo w mean mg mb kk f led vs fun base h₀ fr L m s Q E => Post (fun v => RetV h₀ L m s Q led v)
theorem PT.use {w : World} {mean : ExcName → Option Value} {mg mb : Str → Option Value} {kk : Nat} {f : Addr} {vs : List Value} {PostP : (RV → Prop) → Prop} (h : PT w mean mg mb kk f vs PostP) (led : List (Addr × Obj)) :
    CallsTo w mean mg mb kk f led vs fun base h₀ fr L m s Q E => PostP (fun v => RetV h₀ L m s Q led v) := h led
theorem slice_hit (T W : Str) {a : Nat} (n : Nat) (hW : W.length = n) (hn : 0 < n) (ha : a ≤ T.length) : (Txt.slice T (some (a : Int)) (some ((a : Int) + (n : Int))) == W) = decide (Hit T W a) := by
  rw [Bool.eq_iff_iff, beq_iff_eq, decide_eq_true_eq]
  by_cases h : a + n ≤ T.length
  · rw [show ((a : Int) + (n : Int)) = ((a + n : Nat) : Int) from rfl, slice_nat T (by (first | lia | omega)) h]
    unfold sub Hit
    rw [Nat.add_sub_cancel_left, hW]
    constructor
    · intro e
      refine ⟨h, ?_⟩
      rw [← e]
    · rintro ⟨_, e⟩
      rw [e]
  · have e : Txt.slice T (some (a : Int)) (some ((a : Int) + (n : Int))) = Txt.slice T (some (a : Int)) (some (T.length : Int)) := by
      unfold Txt.slice
      have e1 : Builtin.Str.strSliceIndices (some (a : Int)) (some ((a : Int) + (n : Int))) 1 T.length = Builtin.Str.strSliceIndices (some (a : Int)) (some (T.length : Int)) 1 T.length := by
        have h1 : ¬ ((a : Int) + (n : Int) < 0) := by (first | lia | omega)
        have h2 : ¬ ((T.length : Int) < 0) := by (first | lia | omega)
        have h3 : max (0 : Int) (min ((a : Int) + (n : Int)) (T.length : Int)) = T.length := by (first | lia | omega)
        have h4 : max (0 : Int) (min (T.length : Int) (T.length : Int)) = T.length := by (first | lia | omega)
        simp [Builtin.Str.strSliceIndices, h1, h2, h3, h4]
      rw [e1]
    rw [e, slice_nat T ha (Nat.le_refl _)]
    constructor
    · intro q
      have := sub_len T ha (Nat.le_refl _)
      rw [q] at this
      (first | lia | omega)
    · intro q
      have := q.1
      (first | lia | omega)
set_option maxHeartbeats 8000000 in
theorem law_ends_spec (w mean mg mb) (T : Str) (tT : CTok) (W : Str) (tW : CTok) (k : Nat) (tk : CTok) (hT : T.length ≤ 1000) (hW : W.length ≤ 1000) : PM w mean mg mb 1 993 [.str T tT, .str W tW, .int k tk] fun R _ => ∀ r, Fst T W k r → (r = none → ∀ t, R (.int (-1) t)) ∧ (∀ j, r = some j → ∀ t, R (.int (j + W.length : Nat) t)) := by
  obtain ⟨r, hr, er⟩ := find3_nat T W k
  unfold PM CallsTo
  intros
  rename_i hret
  refine wpAny_call ?_
  k_dflt (refine' code_def ?k1 ?k2 ?k3 ?k4 ?k5 ?kA ?kF ?kK ?k6 ?k7 ?k8 ?k9 ?kB ?_ ?c2 ?c3 ?c4 ?c5; (case kA | kF => exact rfl); (case kK => first | exact rfl | assumption); (case k1 | k2 | k3 | k4 | k5 => k_asm); (case k6 | k7 => k_is); (case k8 => first | exact room_0 (by assumption) | ktr_room); (case k9 => first | exact BindsTo.of_eq rfl | exact binds_K (by k_in) rfl (by k_is) rfl rfl rfl); (case c5 => decide); (case kB => exact locs rfl); (case c2 | c3 | c4 => exact rfl); k_whole; intro g' L' h' FG' F' N' B' X' T'; (try dsimp only); (try k_fold))
  k_steps
  all_goals (dsimp only at hret)
  · cases r with
    | none => exfalso; dsimp only at er; (first | lia | omega)
    | some j =>
      have er : Txt.find3 T W ↑k = (j : Int) := er
      exact retB ((hret (some j) hr).2 j rfl _) (congrArg (fun z => Value.int z _) (by rw [er]; rfl)) (by assumption) (by assumption)
  · cases r with
    | none => exact (hret none hr).1 rfl _ _ _ (by assumption) (by assumption)
    | some j => exfalso; dsimp only at er; (first | lia | omega)
end Mine
end -- La
section -- Lb
namespace Mine
section
variable {prog : Program} {w : World} {A : Around} {E : Value → Shared → Prop} {Q : Flow → Shared → Prop} {s : Shared} {env : Env} {h₀ : Heap} {L : Addr}
noncomputable def StPost (h₀ : Heap) (L : Addr) (x : Str) (stored : List Str) (m₀ : Str → Option Value) (led : List (Addr × Obj)) (P : Nat → Prop) (μ : Nat → Nat) (s : Shared) (Q : Flow → Shared → Prop) (a : Nat) (f : Flow) (s₂ : Shared) : Prop :=
  match f with
  | .ret v => Q (.ret v) s₂
  | .brk => Q .next s₂
  | _ => ∃ (a' : Nat) (ta : CTok) (h' : Heap) (tk : Nat) (m' : Str → Option Value) (news' : List (Addr × Obj)), s₂ = { s with heap := h', toks := tk } ∧ Fr h₀ L h' m' ∧ News h₀ L h' news' ∧ (∀ p ∈ led, p ∈ news') ∧ m' x = some (.int (a' : Nat) ta) ∧ (∀ z, z ≠ x → stored.contains z = false → m' z = m₀ z) ∧ P a' ∧ μ a' < μ a
theorem st_end {x : Str} {stored : List Str} {m₀ : Str → Option Value} {led : List (Addr × Obj)} {P : Nat → Prop} {μ : Nat → Nat} {a : Nat} {a' : Nat} {ta : CTok} {h' : Heap} {tk : Nat} {m' : Str → Option Value} {nx : List (Addr × Obj)} (F : Fr h₀ L h' m') (N : News h₀ L h' nx) (hs : ∀ p ∈ led, p ∈ nx) (hx : m' x = some (.int (a' : Nat) ta)) (hm : ∀ z, z ≠ x → stored.contains z = false → m' z = m₀ z) (hp : P a') (hμ : μ a' < μ a) :
    StPost h₀ L x stored m₀ led P μ s Q a .next { s with heap := h', toks := tk } := ⟨a', ta, h', tk, m', nx, rfl, F, N, hs, hx, hm, hp, hμ⟩
/-- a while that moves one int and stores names -/
theorem whl_st {test : Expr} {body : List Stmt} {pos : Pos} {m₀ : Str → Option Value} (x : Str) (stored : List Str) {led : List (Addr × Obj)} (P : Nat → Prop) (μ : Nat → Nat) (a₀ : Nat) {t₀ : CTok}
    (F : Fr h₀ L s.heap m₀) (N : News h₀ L s.heap led) (h0 : m₀ x = some (.int (a₀ : Nat) t₀)) (hp : P a₀)
    (turn : ∀ (a : Nat) (ta : CTok) (u : Str → Option Value) h tk, P a → Fr h₀ L h (fun y => if y = x then some (.int (a : Nat) ta) else if stored.contains y then u y else m₀ y) → News h₀ L h led →
      wpAny (model prog w) A (isTrue test env (eval test env)) (fun b s₂ =>
        if b = true then wpAny (model prog w) A (execs body env) (StPost h₀ L x stored m₀ led P μ s Q a) E s₂ else Q .next s₂) E { s with heap := h, toks := tk })
    (hE : PassesOwn (model prog w) A env E) :
    wpAny (model prog w) A (exec (.While test body [] pos) env) Q E s := by
  refine ksw_while (σ := Nat × CTok) (fun _ => led) (fun c => [(x, .int (c.1 : Nat) c.2)]) (fun _ => True) stored (fun c => P c.1) (fun c => μ c.1) ⟨a₀, t₀⟩ F N trivial (fun p hp => by rw [List.mem_singleton.mp hp]; exact h0) hp (fun c u h tk _ hP F' N' => ?_) hE
  refine wpAny_mono (turn c.1 c.2 u h tk hP F' N') (fun b s₂ p => ?_) fun _ _ x => x
  cases b with
  | false => simpa using p
  | true =>
    simp only [if_true] at p ⊢
    refine wpAny_mono p (fun f s₃ q => ?_) fun _ _ x => x
    cases f with
    | ret v => exact q
    | brk => exact q
    | next =>
      obtain ⟨a', ta, h', tk', m', nx, rfl, F9, N9, hs, hx, hm, hp9, hμ⟩ := q
      exact ⟨⟨a', ta⟩, h', tk', m', nx, rfl, F9, N9, hs, trivial, (fun p hp => by rw [List.mem_singleton.mp hp]; exact hx), (fun z h1 h2 => hm z (h1 _ (List.mem_singleton.mpr rfl)) h2), hp9, hμ⟩
    | cont =>
      obtain ⟨a', ta, h', tk', m', nx, rfl, F9, N9, hs, hx, hm, hp9, hμ⟩ := q
      exact ⟨⟨a', ta⟩, h', tk', m', nx, rfl, F9, N9, hs, trivial, (fun p hp => by rw [List.mem_singleton.mp hp]; exact hx), (fun z h1 h2 => hm z (h1 _ (List.mem_singleton.mpr rfl)) h2), hp9, hμ⟩
end
theorem ne_br (c : Nat) : ((⟨#[c]⟩ : Str) != Str.ofString "]") = !decide (c = 93) := by
  rw [show Str.ofString "]" = ⟨#[93]⟩ by decide +kernel, Bool.eq_iff_iff]
  simp
theorem occ_q (c : Nat) : (Builtin.Str.occurrences (Str.ofString "'\"") ⟨#[c]⟩ 0 (Str.ofString "'\"").length 1).isEmpty = !decide (c = 34 ∨ c = 39) := by
  have e := StrLaws.found_one (Str.ofString "'\"") c
  rw [show (Str.ofString "'\"").cps.toList = [39, 34] by decide +kernel] at e
  have e2 : (!(!(Builtin.Str.occurrences (Str.ofString "'\"") ⟨#[c]⟩ 0 (Str.ofString "'\"").length 1).isEmpty)) = !decide (c ∈ [39, 34]) := congrArg (fun b => !b) e
  rw [Bool.not_not] at e2
  rw [e2]
  congr 1
  rw [Bool.eq_iff_iff]
  simp
  omega
set_option maxHeartbeats 8000000 in
theorem law_bracket_spec (w mean mg mb) (T : Str) (tT : CTok) (b : Nat) (tb : CTok) (hT : T.length ≤ 1000) (hb : b ≤ T.length) : PT w mean mg mb 2 1000 [.str T tT, .int b tb] fun R => ∀ ok p, Br T b b ok p → ∀ t, R (.tup [.bool ok, .int (p : Nat) t]) := by
  unfold PT CallsTo
  intros
  rename_i hret
  refine wpAny_call ?_
  k_dflt (refine' code_def ?k1 ?k2 ?k3 ?k4 ?k5 ?kA ?kF ?kK ?k6 ?k7 ?k8 ?k9 ?kB ?_ ?c2 ?c3 ?c4 ?c5; (case kA | kF => exact rfl); (case kK => first | exact rfl | assumption); (case k1 | k2 | k3 | k4 | k5 => k_asm); (case k6 | k7 => k_is); (case k8 => first | exact room_0 (by assumption) | ktr_room); (case k9 => first | exact BindsTo.of_eq rfl | exact binds_K (by k_in) rfl (by k_is) rfl rfl rfl); (case c5 => decide); (case kB => exact locs rfl); (case c2 | c3 | c4 => exact rfl); k_whole; intro g' L' h' FG' F' N' B' X' T'; (try dsimp only); (try k_fold))
  (k_steps; (try repeat' ((with_reducible refine Stop.by ?_); (first | ((with_reducible show wpAny _ _ (call (Value.ref 150) _) _ _ _); k_dflt (refine' CallsTo.use (sf_call _ _ _ _ _ _ _ _ _) ?z1 ?z2 ?z3 ?z4 ?z5 ?zK ?zd ?zu ?_; (case z1 | z2 | z3 | z4 | z5 => k_asm); (case zK => first | exact rfl | assumption); (case zd => first | exact room_d (by assumption) (by exact rfl) | exact room_e (by assumption) (by exact rfl) | ktr_room); (case zu => first | exact room_u (by assumption) (by exact rfl) | exact room_v (by assumption) (by exact rfl) | exact room_x (by assumption) (by exact rfl) | exact room_w (by assumption) (by exact rfl) | exact room_y (by assumption) (by exact rfl) | ktr_units); intro e' t' oe' h' tk' hX' hg' hc' hd' hM'; (try dsimp only))) | ((with_reducible show wpAny _ _ (exec (Stmt.Raise _ _ _) _) _ _ _); k_dflt (refine' raise150 ?h ?_; (case h => exact rfl); (try k_fold))) | ((with_reducible show Exists _); (rename MadeF _ _ _ _ _ _ _ _ _ => hM9); refine ⟨_, _, _, rfl, by assumption, by assumption, by assumption, by assumption, ?_⟩) | ((with_reducible show wpAny _ _ (leaving _ (Value.ref _)) _ _ _); (k_dflt first | (refine' leave_newF (hk := by rfl) ?k1 ?k2 ?_; (case k2 => assumption); (case k1 => assumption); k_whole; intro h' R' U'; (try dsimp only at R' U' ⊢)) | (refine' leave_onF ?k1 ?k2 ?k3 ?k4 ?_; (case k3 => assumption); (case k1 => assumption); (case k2 => assumption); (case k4 => assumption); k_whole; intro h' R' U'; (try dsimp only at R' U' ⊢)))) | ((with_reducible show wpAny _ _ (subscriptTail _ _ (Value.str _ _) (Value.int _ _)) _ _ _); (k_dflt (refine' item_at ?hs ?h2 ?_ (by with_unfolding_all rfl) (by intro _; with_unfolding_all rfl); (case hs => omega); (case h2 => omega); (try dsimp only))))); k_steps)))
  refine Stop.by ?_
  rename Fr _ _ _ _ => lF
  rename News _ _ _ _ => lN
  refine whl_st (hE := by passes_own) (Str.ofString "at") [Str.ofString "width", Str.ofString "word", Str.ofString "end"] (fun a => b ≤ a ∧ a ≤ T.length ∧ ∀ ok p, Br T b a ok p → Br T b b ok p) (fun a => T.length - a) b lF lN rfl ⟨Nat.le_refl _, hb, fun _ _ h => h⟩ ?_
  rintro a ta u h tk ⟨hba, ha, hB⟩ cF cN
  clear lF lN
  (try dsimp only at cN hba ha hB)
  have e4 : (Txt.slice T (some (a : Int)) (some ((a : Int) + 4)) == Str.ofString "<!--") = decide (Hit T (Str.ofString "<!--") a) := slice_hit T _ 4 rfl (by omega) ha
  have e2 : (Txt.slice T (some (a : Int)) (some ((a : Int) + 2)) == Str.ofString "<?") = decide (Hit T (Str.ofString "<?") a) := slice_hit T _ 2 rfl (by omega) ha
  have e1 := ne_br (ch T a)
  have eq := occ_q (ch T a)
  (k_steps; (try repeat' ((with_reducible refine Stop.by ?_); (first | ((with_reducible show wpAny _ _ (call (Value.ref 993) _) _ _ _); k_dflt (refine' CallsTo.use ?zs ?z1 ?z2 ?z3 ?z4 ?z5 ?zK ?zd ?zu ?_; (case z1 | z2 | z3 | z4 | z5 => k_asm); (case zK => first | exact rfl | assumption); (case zs => exact (PM.use (law_ends_spec _ _ _ _ _ _ _ _ _ _ (by walk_at "zz side") (by walk_at "zz side")) _)); (case zd => first | exact room_d (by assumption) (by exact rfl) | exact room_e (by assumption) (by exact rfl) | ktr_room); (case zu => first | exact room_u (by assumption) (by exact rfl) | exact room_v (by assumption) (by exact rfl) | exact room_x (by assumption) (by exact rfl) | exact room_w (by assumption) (by exact rfl) | exact room_y (by assumption) (by exact rfl) | ktr_units); (try dsimp only [RetV, len_0, len_1, len_2, len_3, len_4, len_5, len_6, len_7, len_8, len_9, len_10, len_11, len_12, len_13, len_14, len_15, len_16, len_17, len_18]); (with_reducible (repeat' (first | (refine And.intro ?_ ?_) | intro))); (all_goals (try dsimp only)); (all_goals (try (rename (∀ p : Addr × Obj, _ ∈ _ → @LT.lt Nat _ _ _) => zl1; k_lt zl1))); (all_goals (try contradiction)))) | ((with_reducible show wpAny _ _ (call (Value.ref 150) _) _ _ _); k_dflt (refine' CallsTo.use (sf_call _ _ _ _ _ _ _ _ _) ?z1 ?z2 ?z3 ?z4 ?z5 ?zK ?zd ?zu ?_; (case z1 | z2 | z3 | z4 | z5 => k_asm); (case zK => first | exact rfl | assumption); (case zd => first | exact room_d (by assumption) (by exact rfl) | exact room_e (by assumption) (by exact rfl) | ktr_room); (case zu => first | exact room_u (by assumption) (by exact rfl) | exact room_v (by assumption) (by exact rfl) | exact room_x (by assumption) (by exact rfl) | exact room_w (by assumption) (by exact rfl) | exact room_y (by assumption) (by exact rfl) | ktr_units); intro e' t' oe' h' tk' hX' hg' hc' hd' hM'; (try dsimp only))) | ((with_reducible show wpAny _ _ (exec (Stmt.Raise _ _ _) _) _ _ _); k_dflt (refine' raise150 ?h ?_; (case h => exact rfl); (try k_fold))) | ((with_reducible show Exists _); (rename MadeF _ _ _ _ _ _ _ _ _ => hM9); refine ⟨_, _, _, rfl, by assumption, by assumption, by assumption, by assumption, ?_⟩) | ((with_reducible show wpAny _ _ (leaving _ (Value.ref _)) _ _ _); (k_dflt first | (refine' leave_newF (hk := by rfl) ?k1 ?k2 ?_; (case k2 => assumption); (case k1 => assumption); k_whole; intro h' R' U'; (try dsimp only at R' U' ⊢)) | (refine' leave_onF ?k1 ?k2 ?k3 ?k4 ?_; (case k3 => assumption); (case k1 => assumption); (case k2 => assumption); (case k4 => assumption); k_whole; intro h' R' U'; (try dsimp only at R' U' ⊢)))) | ((with_reducible show wpAny _ _ (subscriptTail _ _ (Value.str _ _) (Value.int _ _)) _ _ _); (k_dflt (refine' item_at ?hs ?h2 ?_ (by with_unfolding_all rfl) (by intro _; with_unfolding_all rfl); (case hs => omega); (case h2 => omega); (try dsimp only))))); k_steps)))
  all_goals (dsimp only [RetV] at hret)
  all_goals (simp only [e4, e2, e1, eq, decide_eq_true_eq, decide_eq_false_iff_not, Bool.not_eq_true', Bool.not_eq_false'] at *)
  · dsimp only [StPost]
    k_steps
    rename Fst _ _ _ _ => hF
    rename _ = none => hr
    rw [hr] at hF
    rename _ ∧ _ ∧ AllLt _ _ => l9
    rename News _ _ _ _ => nn
    exact hret false _ (hB _ _ (.com0 (by assumption) hF)) _ _ (fun p hp => kst_ltOf l9.2.2 p hp) _ _ (by assumption) (fun p hp => nn p (sub_cons (.head _) (fun p hp => .tail _ (.tail _ (.tail _ hp))) p hp))
  · rename Fst _ _ _ _ => hF
    rename _ = some _ => hr
    rw [hr] at hF
    have g1 := hF.le
    rename News _ _ _ _ => nn
    refine st_end (by assumption) nn (fun p hp => ?sub) rfl (fun z h1 h2 => ?keep) ⟨?_, ?_, fun ok p h => hB _ _ (.com (by assumption) hF h)⟩ ?_
    case sub => repeat (first | exact hp | refine List.Mem.tail _ ?_)
    case keep =>
      have h3 := h2
      simp only [List.contains_cons, List.contains_nil, Bool.or_false, Bool.or_eq_false_iff, beq_eq_false_iff_ne, ne_eq] at h3
      obtain ⟨g1, g2, g3⟩ := h3
      (try dsimp only)
      repeat (refine (if_neg (by assumption)).trans ?_)
      exact if_neg (by rw [h2]; exact Bool.false_ne_true)
    all_goals ((try rw [len_7] at g1); (try dsimp only); (try rw [len_7]); omega)
  · dsimp only [StPost]
    k_steps
    rename Fst _ _ _ _ => hF
    rename _ = none => hr
    rw [hr] at hF
    rename _ ∧ _ ∧ AllLt _ _ => l9
    rename News _ _ _ _ => nn
    exact hret false _ (hB _ _ (.ins0 (by assumption) (by assumption) hF)) _ _ (fun p hp => kst_ltOf l9.2.2 p hp) _ _ (by assumption) (fun p hp => nn p (sub_cons (.head _) (fun p hp => .tail _ (.tail _ (.tail _ hp))) p hp))
  · rename Fst _ _ _ _ => hF
    rename _ = some _ => hr
    rw [hr] at hF
    have g1 := hF.le
    rename News _ _ _ _ => nn
    refine st_end (by assumption) nn (fun p hp => ?sub) rfl (fun z h1 h2 => ?keep) ⟨?_, ?_, fun ok p h => hB _ _ (.ins (by assumption) (by assumption) hF h)⟩ ?_
    case sub => repeat (first | exact hp | refine List.Mem.tail _ ?_)
    case keep =>
      have h3 := h2
      simp only [List.contains_cons, List.contains_nil, Bool.or_false, Bool.or_eq_false_iff, beq_eq_false_iff_ne, ne_eq] at h3
      obtain ⟨g1, g2, g3⟩ := h3
      (try dsimp only)
      repeat (refine (if_neg (by assumption)).trans ?_)
      exact if_neg (by rw [h2]; exact Bool.false_ne_true)
    all_goals ((try rw [len_9] at g1); (try dsimp only); (try rw [len_9]); omega)
  · rename Fst _ _ _ _ => hF
    rename _ = none => hr
    rw [hr, show Str.ofString "" = ⟨#[]⟩ by decide +kernel] at hF
    exact absurd (hit_nil.mpr (by omega)) (hF (a + 1) (Nat.le_refl _))
  · rename Fst _ _ _ _ => hF0
    rename _ = some _ => hr0
    have hF1 := hF0
    rw [hr0, show Str.ofString "" = ⟨#[]⟩ by decide +kernel] at hF1
    have hj := Option.some.inj (hF1.only (r' := some (a + 1)) ⟨Nat.le_refl _, hit_nil.mpr (by omega), fun i h1 h2 => absurd h1 (by omega)⟩)
    clear hF1
    subst hj
    rename Fst _ _ _ _ => hF
    rename _ = some _ => hr
    rw [hr] at hF
    have g1 := hF.le
    rename News _ _ _ _ => nn
    refine st_end (by assumption) nn (fun p hp => ?sub) rfl (fun z h1 h2 => ?keep) ⟨?_, ?_, fun ok p h => hB _ _ (.plain (by omega) (by assumption) (fun q => absurd (Or.inl q) (by assumption)) (fun q => absurd (Or.inr q) (by assumption)) (by assumption) (by assumption) h)⟩ ?_
    case sub => repeat (first | exact hp | refine List.Mem.tail _ ?_)
    case keep =>
      have h3 := h2
      simp only [List.contains_cons, List.contains_nil, Bool.or_false, Bool.or_eq_false_iff, beq_eq_false_iff_ne, ne_eq] at h3
      obtain ⟨g1, g2, g3⟩ := h3
      (try dsimp only)
      repeat (refine (if_neg (by assumption)).trans ?_)
      exact if_neg (by rw [h2]; exact Bool.false_ne_true)
    all_goals ((try dsimp only); (try rw [show (Str.ofString "").length = 0 from rfl]); omega)
  · dsimp only [StPost]
    k_steps
    rename Fst _ _ _ _ => hF
    rename _ = none => hr
    rw [hr] at hF
    rename _ ∧ AllLt _ _ => l9
    rename News _ _ _ _ => nn
    exact hret false _ (hB _ _ (.quo0 (by omega) (by assumption) hF)) _ _ (fun p hp => kst_ltOf l9.2 p hp) _ _ (by assumption) (fun p hp => nn p (sub_cons (.head _) (fun p hp => .tail _ (.tail _ hp)) p hp))
  · rename Fst _ _ _ _ => hF
    rename _ = some _ => hr
    rw [hr] at hF
    have g1 := hF.le
    rename News _ _ _ _ => nn
    refine st_end (by assumption) nn (fun p hp => ?sub) rfl (fun z h1 h2 => ?keep) ⟨?_, ?_, fun ok p h => hB _ _ (.quo (by omega) (by assumption) hF h)⟩ ?_
    case sub => repeat (first | exact hp | refine List.Mem.tail _ ?_)
    case keep =>
      have h3 := h2
      simp only [List.contains_cons, List.contains_nil, Bool.or_false, Bool.or_eq_false_iff, beq_eq_false_iff_ne, ne_eq] at h3
      obtain ⟨g1, g2, g3⟩ := h3
      (try dsimp only)
      repeat (refine (if_neg (by assumption)).trans ?_)
      exact if_neg (by rw [h2]; exact Bool.false_ne_true)
    all_goals ((try rw [show (⟨#[ch T a]⟩ : Str).length = 1 from rfl] at g1); (try dsimp only); (try rw [show (⟨#[ch T a]⟩ : Str).length = 1 from rfl]); omega)
  · rename News _ _ _ _ => nn
    rename ∀ p : Addr × Obj, _ ∈ _ → @LT.lt Nat _ _ _ => l9
    exact hret true a (hB _ _ (.close (by omega) (by assumption))) _ _ l9 _ _ (by assumption) nn
  · rename News _ _ _ _ => nn
    rename ∀ p : Addr × Obj, _ ∈ _ → @LT.lt Nat _ _ _ => l9
    exact hret false b (hB _ _ (.over (by omega))) _ _ l9 _ _ (by assumption) nn
end Mine
end -- Lb
section -- Lc
namespace Mine
/-- which way a walk along the brackets goes on -/
noncomputable def brCl (T : Str) (a : Nat) : Nat := if T.length ≤ a then 0 else if ch T a = 93 then 1 else if Hit T (Str.ofString "<!--") a then 2 else if Hit T (Str.ofString "<?") a then 3 else if ch T a = 34 ∨ ch T a = 39 then 4 else 5
section
variable {T : Str} {b a : Nat} {ok : Bool} {p : Nat}
theorem com_lt (h : Hit T (Str.ofString "<!--") a) : a < T.length := by have := h.1; rw [len_6] at this; (first | lia | omega)
theorem ins_lt (h : Hit T (Str.ofString "<?") a) : a < T.length := by have := h.1; rw [len_8] at this; (first | lia | omega)
theorem brCl0 (h : T.length ≤ a) : brCl T a = 0 := if_pos h
theorem brCl1 (h : a < T.length) (h2 : ch T a = 93) : brCl T a = 1 := (if_neg (Nat.not_le_of_lt h)).trans (if_pos h2)
theorem brCl2 (h : Hit T (Str.ofString "<!--") a) : brCl T a = 2 := (if_neg (Nat.not_le_of_lt (com_lt h))).trans ((if_neg (by rw [hit_com h]; decide)).trans (if_pos h))
theorem brCl3 (h0 : ¬ Hit T (Str.ofString "<!--") a) (h : Hit T (Str.ofString "<?") a) : brCl T a = 3 := (if_neg (Nat.not_le_of_lt (ins_lt h))).trans ((if_neg (by rw [hit_ins h]; decide)).trans ((if_neg h0).trans (if_pos h)))
theorem brCl4 (h0 : a < T.length) (h : ch T a = 34 ∨ ch T a = 39) : brCl T a = 4 := (if_neg (Nat.not_le_of_lt h0)).trans ((if_neg (by rcases h with h | h <;> (rw [h]; decide))).trans ((if_neg fun q => by rw [hit_com q] at h; revert h; decide).trans ((if_neg fun q => by rw [hit_ins q] at h; revert h; decide).trans (if_pos h))))
theorem brCl5 (h0 : a < T.length) (h1 : ch T a ≠ 93) (h2 : ch T a ≠ 34) (h3 : ch T a ≠ 39) (h4 : ¬ Hit T (Str.ofString "<!--") a) (h5 : ¬ Hit T (Str.ofString "<?") a) : brCl T a = 5 := (if_neg (Nat.not_le_of_lt h0)).trans ((if_neg h1).trans ((if_neg h4).trans ((if_neg h5).trans (if_neg fun q => q.elim h2 h3))))
noncomputable def Nx (T : Str) (b : Nat) (W : Str) (k n : Nat) (ok : Bool) (p : Nat) : Prop := (Fst T W k none ∧ ok = false ∧ p = k) ∨ ∃ j, Fst T W k (some j) ∧ Br T b (j + n) ok p
theorem Br.inv (h : Br T b a ok p) : (brCl T a = 0 ∧ ok = false ∧ p = b) ∨ (brCl T a = 1 ∧ ok = true ∧ p = a) ∨ (brCl T a = 2 ∧ Nx T b (Str.ofString "-->") (a + 4) 3 ok p) ∨ (brCl T a = 3 ∧ Nx T b (Str.ofString "?>") (a + 2) 2 ok p) ∨ (brCl T a = 4 ∧ Nx T b ⟨#[ch T a]⟩ (a + 1) 1 ok p) ∨ (brCl T a = 5 ∧ Br T b (a + 1) ok p) :=
  match h with
  | .over h1 => .inl ⟨brCl0 h1, rfl, rfl⟩
  | .close h1 h2 => .inr (.inl ⟨brCl1 h1 h2, rfl, rfl⟩)
  | .com0 h1 h2 => .inr (.inr (.inl ⟨brCl2 h1, .inl ⟨h2, rfl, rfl⟩⟩))
  | .com h1 h2 h3 => .inr (.inr (.inl ⟨brCl2 h1, .inr ⟨_, h2, h3⟩⟩))
  | .ins0 h0 h1 h2 => .inr (.inr (.inr (.inl ⟨brCl3 h0 h1, .inl ⟨h2, rfl, rfl⟩⟩)))
  | .ins h0 h1 h2 h3 => .inr (.inr (.inr (.inl ⟨brCl3 h0 h1, .inr ⟨_, h2, h3⟩⟩)))
  | .quo0 h0 h1 h2 => .inr (.inr (.inr (.inr (.inl ⟨brCl4 h0 h1, .inl ⟨h2, rfl, rfl⟩⟩))))
  | .quo h0 h1 h2 h3 => .inr (.inr (.inr (.inr (.inl ⟨brCl4 h0 h1, .inr ⟨_, h2, h3⟩⟩))))
  | .plain h0 h1 h2 h3 h4 h5 h6 => .inr (.inr (.inr (.inr (.inr ⟨brCl5 h0 h1 h2 h3 h4 h5, h6⟩))))
theorem or6 {x : Nat} {P0 P1 P2 P3 P4 P5 : Prop} (h : (x = 0 ∧ P0) ∨ (x = 1 ∧ P1) ∨ (x = 2 ∧ P2) ∨ (x = 3 ∧ P3) ∨ (x = 4 ∧ P4) ∨ (x = 5 ∧ P5)) : (x = 0 → P0) ∧ (x = 1 → P1) ∧ (x = 2 → P2) ∧ (x = 3 → P3) ∧ (x = 4 → P4) ∧ (x = 5 → P5) := by
  rcases h with ⟨rfl, h⟩ | ⟨rfl, h⟩ | ⟨rfl, h⟩ | ⟨rfl, h⟩ | ⟨rfl, h⟩ | ⟨rfl, h⟩ <;> simp [h]
theorem Nx.det {W : Str} {k n : Nat} {ok' : Bool} {p' : Nat} (h : Nx T b W k n ok' p') (z : Fst T W k none) : false = ok' ∧ k = p' := by
  rcases h with ⟨_, e1, e2⟩ | ⟨j, z', _⟩
  · exact ⟨e1.symm, e2.symm⟩
  · exact absurd (z.only z') (by simp)
theorem Nx.go {W : Str} {k n j : Nat} {ok' : Bool} {p' : Nat} (h : Nx T b W k n ok' p') (z : Fst T W k (some j)) : Br T b (j + n) ok' p' := by
  rcases h with ⟨z', _, _⟩ | ⟨j', z', r⟩
  · exact absurd (z.only z') (by simp)
  · rw [Option.some.inj (z.only z')]; exact r
end
theorem Br.det {T : Str} {b a : Nat} {ok : Bool} {p : Nat} (h : Br T b a ok p) : ∀ {ok' p'}, Br T b a ok' p' → ok = ok' ∧ p = p' := by
  induction h with
  | over h1 => intro ok' p' h'; have := (or6 h'.inv).1 (brCl0 h1); exact ⟨this.1.symm, this.2.symm⟩
  | close h1 h2 => intro ok' p' h'; have := (or6 h'.inv).2.1 (brCl1 h1 h2); exact ⟨this.1.symm, this.2.symm⟩
  | com0 h1 h2 => intro ok' p' h'; exact ((or6 h'.inv).2.2.1 (brCl2 h1)).det h2
  | com h1 h2 _ ih => intro ok' p' h'; exact ih (((or6 h'.inv).2.2.1 (brCl2 h1)).go h2)
  | ins0 h0 h1 h2 => intro ok' p' h'; exact ((or6 h'.inv).2.2.2.1 (brCl3 h0 h1)).det h2
  | ins h0 h1 h2 _ ih => intro ok' p' h'; exact ih (((or6 h'.inv).2.2.2.1 (brCl3 h0 h1)).go h2)
  | quo0 h0 h1 h2 => intro ok' p' h'; exact ((or6 h'.inv).2.2.2.2.1 (brCl4 h0 h1)).det h2
  | quo h0 h1 h2 _ ih => intro ok' p' h'; exact ih (((or6 h'.inv).2.2.2.2.1 (brCl4 h0 h1)).go h2)
  | plain h0 h1 h2 h3 h4 h5 _ ih => intro ok' p' h'; exact ih ((or6 h'.inv).2.2.2.2.2 (brCl5 h0 h1 h2 h3 h4 h5))
/-- how a document type ends: at a fault, or told up to e -/
inductive Out where
  | fault (p : Nat)
  | doc (inner : Str) (e : Nat)
/-- what the law's own walk says of T: the system name S stands behind the quote at q -/
inductive Lw (T S : Str) (q : Nat) : Out → Prop
  | bad {i} : BadAt S (some i) → Lw T S q (.fault (q + 1 + i))
  | br {p} : BadAt S none → Br T (q + S.length + 3) (q + S.length + 3) false p → Lw T S q (.fault p)
  | noend {p j} : BadAt S none → Br T (q + S.length + 3) (q + S.length + 3) true p → Sps T (p + 1) j → ¬ Hit T (Str.ofString ">") j → Lw T S q (.fault j)
  | ok {p j} : BadAt S none → Br T (q + S.length + 3) (q + S.length + 3) true p → Sps T (p + 1) j → Hit T (Str.ofString ">") j → Lw T S q (.doc (sub T (q + S.length + 3) p) (j + 1))
theorem Lw.det {T S : Str} {q : Nat} {o o' : Out} (h : Lw T S q o) (h' : Lw T S q o') : o = o' := by
  cases h with
  | bad h1 =>
    cases h' with
    | bad g1 => have e := h1.only g1; injection e with e; rw [e]
    | br g1 _ => have e := h1.only g1; cases e
    | noend g1 _ _ _ => have e := h1.only g1; cases e
    | ok g1 _ _ _ => have e := h1.only g1; cases e
  | br h1 h2 =>
    cases h' with
    | bad g1 => have e := h1.only g1; cases e
    | br g1 g2 => rw [(h2.det g2).2]
    | noend g1 g2 _ _ => cases (h2.det g2).1
    | ok g1 g2 _ _ => cases (h2.det g2).1
  | noend h1 h2 h3 h4 =>
    cases h' with
    | bad g1 => have e := h1.only g1; cases e
    | br g1 g2 => cases (h2.det g2).1
    | noend g1 g2 g3 g4 => have e := (h2.det g2).2; subst e; rw [h3.only g3]
    | ok g1 g2 g3 g4 => have e := (h2.det g2).2; subst e; have e := h3.only g3; subst e; exact absurd g4 h4
  | ok h1 h2 h3 h4 =>
    cases h' with
    | bad g1 => have e := h1.only g1; cases e
    | br g1 g2 => cases (h2.det g2).1
    | noend g1 g2 g3 g4 => have e := (h2.det g2).2; subst e; have e := h3.only g3; subst e; exact absurd h4 g4
    | ok g1 g2 g3 g4 => have e := (h2.det g2).2; subst e; rw [h3.only g3]
theorem len_app (x y : Str) : (x ++ y).length = x.length + y.length := by
  show (x.cps ++ y.cps).size = _
  rw [Array.size_append]; rfl
theorem ch_l {x y : Str} {i : Nat} (h : i < x.length) : ch (x ++ y) i = ch x i := by
  have h1 := ch_eq (T := x ++ y) (i := i) (by rw [len_app]; (first | lia | omega))
  have h2 := ch_eq h
  rw [show (x ++ y).cps.toList = x.cps.toList ++ y.cps.toList from Array.toList_append, List.getElem?_append_left (show i < x.cps.toList.length by rw [show x.cps.toList.length = x.length by simp [Str.length]]; exact h), h2] at h1
  exact (Option.some.inj h1).symm
theorem ch_r {x y : Str} {i : Nat} (h : i < y.length) : ch (x ++ y) (x.length + i) = ch y i := by
  have h1 := ch_eq (T := x ++ y) (i := x.length + i) (by rw [len_app]; (first | lia | omega))
  have h2 := ch_eq h
  have hx : x.cps.toList.length = x.length := by simp [Str.length]
  rw [show (x ++ y).cps.toList = x.cps.toList ++ y.cps.toList from Array.toList_append, List.getElem?_append_right (by rw [hx]; (first | lia | omega)), hx, Nat.add_sub_cancel_left, h2] at h1
  exact (Option.some.inj h1).symm
theorem ch_r' {x y : Str} {i : Nat} (h0 : x.length ≤ i) (h : i < (x ++ y).length) : ch (x ++ y) i = ch y (i - x.length) := by
  rw [len_app] at h
  have := ch_r (x := x) (y := y) (i := i - x.length) (by (first | lia | omega))
  rwa [show x.length + (i - x.length) = i by (first | lia | omega)] at this
theorem hit_l {x y W : Str} {i : Nat} (h : Hit x W i) : Hit (x ++ y) W i := by
  obtain ⟨h1, h2⟩ := h
  refine ⟨by rw [len_app]; (first | lia | omega), ?_⟩
  have hx : x.cps.toList.length = x.length := by simp [Str.length]
  rw [show (x ++ y).cps.toList = x.cps.toList ++ y.cps.toList from Array.toList_append, List.drop_append_of_le_length (by rw [hx]; (first | lia | omega)), List.take_append_of_le_length (by rw [List.length_drop, hx]; (first | lia | omega)), h2]
theorem app_assoc (x y z : Str) : x ++ y ++ z = x ++ (y ++ z) := by
  show (⟨x.cps ++ y.cps ++ z.cps⟩ : Str) = ⟨x.cps ++ (y.cps ++ z.cps)⟩
  rw [Array.append_assoc]
theorem sub_mid (x y z : Str) : sub (x ++ y ++ z) x.length (x.length + y.length) = y := by
  unfold sub
  have hx : x.cps.toList.length = x.length := by simp [Str.length]
  have hy : y.cps.toList.length = y.length := by simp [Str.length]
  rw [show (x ++ y ++ z).cps.toList = x.cps.toList ++ y.cps.toList ++ z.cps.toList from by rw [show (x ++ y ++ z).cps.toList = (x ++ y).cps.toList ++ z.cps.toList from Array.toList_append, show (x ++ y).cps.toList = x.cps.toList ++ y.cps.toList from Array.toList_append],
    List.append_assoc, ← hx, List.drop_left, Nat.add_sub_cancel_left, ← hy, List.take_left]
/-- signs of plain ascii -/
noncomputable def Pr (x : Str) : Prop := ∀ i, i < x.length → 32 ≤ ch x i ∧ ch x i ≤ 126
theorem Pr.app {x y : Str} (h : Pr x) (h' : Pr y) : Pr (x ++ y) := fun i hi => by
  by_cases q : i < x.length
  · rw [ch_l q]; exact h i q
  · rw [ch_r' (by (first | lia | omega)) hi]
    rw [len_app] at hi
    exact h' _ (by (first | lia | omega))
theorem pr_ch {c : Nat} (h : 32 ≤ c ∧ c ≤ 126) : isCh c = true := by
  unfold isCh inR
  rw [if_neg (by (first | lia | omega))]
  simp only [Bool.or_eq_true, decide_eq_true_eq]
  (first | lia | omega)
theorem pr_sp {c : Nat} (h : 32 ≤ c ∧ c ≤ 126) : isSp c = (c == 32) := by
  unfold isSp
  rw [Bool.eq_iff_iff]
  simp only [Bool.or_eq_true, beq_iff_eq]
  (first | lia | omega)
theorem sps1 {T : Str} {k : Nat} (h : k + 1 < T.length) (h1 : ch T k = 32) (h2 : isSp (ch T (k + 1)) = false) : Sps T k (k + 1) :=
  ⟨by (first | lia | omega), by (first | lia | omega), fun i a b => by rw [show i = k by (first | lia | omega), h1]; decide, fun _ => h2⟩
theorem sps0 {T : Str} {k : Nat} (h : k < T.length) (h2 : isSp (ch T k) = false) : Sps T k k := ⟨by (first | lia | omega), by (first | lia | omega), fun i a b => absurd a (by (first | lia | omega)), fun _ => h2⟩
/-- the text that the law builds: head H, system name S, in brackets I, tail Z -/
noncomputable abbrev txt (H S I Z : Str) : Str := H ++ S ++ Str.ofString "\"[" ++ I ++ Z
noncomputable def SgOk (S : Str) : Prop := S.length ≤ 4 ∧ ∀ i, i < S.length → ch S i ∈ [115, 46, 233, 127, 93, 60, 39, 65533, 1, 11, 65534]
theorem two_q : (Str.ofString "\"[") = ⟨#[34, 91]⟩ := by decide +kernel
section
variable {H S I Z : Str}
theorem txt_len : (txt H S I Z).length = H.length + S.length + 2 + I.length + Z.length := by
  simp only [txt, len_app]
  rw [two_q]; rfl
theorem txt_head {i : Nat} (h : i < H.length) : ch (txt H S I Z) i = ch H i := by
  simp only [txt]
  rw [ch_l (by simp only [len_app]; (first | lia | omega)), ch_l (by simp only [len_app]; (first | lia | omega)), ch_l (by simp only [len_app]; (first | lia | omega)), ch_l h]
theorem txt_sys {i : Nat} (h : i < S.length) : ch (txt H S I Z) (H.length + i) = ch S i := by
  simp only [txt]
  rw [ch_l (by simp only [len_app]; (first | lia | omega)), ch_l (by simp only [len_app]; (first | lia | omega)), ch_l (by simp only [len_app]; (first | lia | omega)), ch_r h]
theorem txt_two {i : Nat} (h : i < 2) : ch (txt H S I Z) (H.length + S.length + i) = ch (Str.ofString "\"[") i := by
  have e : (Str.ofString "\"[").length = 2 := by rw [two_q]; rfl
  simp only [txt]
  rw [ch_l (by simp only [len_app]; (first | lia | omega)), ch_l (by simp only [len_app]; (first | lia | omega)), ← len_app, ch_r (by (first | lia | omega))]
theorem txt_q : ch (txt H S I Z) (H.length + S.length) = 34 := by
  have := txt_two (H := H) (S := S) (I := I) (Z := Z) (i := 0) (by (first | lia | omega))
  rw [Nat.add_zero] at this
  rw [this, two_q]; rfl
theorem txt_br : ch (txt H S I Z) (H.length + S.length + 1) = 91 := by
  rw [txt_two (i := 1) (by (first | lia | omega)), two_q]; rfl
theorem txt_pr (hI : Pr I) (hZ : Pr Z) {i : Nat} (h : H.length + S.length + 1 < i) (hl : i < (txt H S I Z).length) : 32 ≤ ch (txt H S I Z) i ∧ ch (txt H S I Z) i ≤ 126 := by
  have e : (Str.ofString "\"[").length = 2 := by rw [two_q]; rfl
  have eq : txt H S I Z = H ++ S ++ Str.ofString "\"[" ++ (I ++ Z) := by simp only [txt]; rw [app_assoc]
  have hh := hl
  rw [txt_len] at hh
  rw [eq] at hl ⊢
  have hu : (H ++ S ++ Str.ofString "\"[").length = H.length + S.length + 2 := by simp only [len_app, e]
  rw [ch_r' (by (first | lia | omega)) hl]
  exact (hI.app hZ) _ (by rw [len_app I Z]; (first | lia | omega))
theorem txt_good (hI : Pr I) (hZ : Pr Z) : Good (txt H S I Z) (H.length + S.length + 1) := fun i h hl => pr_ch (txt_pr hI hZ h hl)
theorem txt_sub : sub (txt H S I Z) H.length (H.length + S.length) = S := by
  have eq : txt H S I Z = H ++ S ++ (Str.ofString "\"[" ++ I ++ Z) := by simp only [txt]; rw [app_assoc (H ++ S), app_assoc (H ++ S)]
  rw [eq]; exact sub_mid ..
theorem txt_fst (hS : SgOk S) : Fst (txt H S I Z) ⟨#[34]⟩ H.length (some (H.length + S.length)) := by
  refine ⟨by (first | lia | omega), hit_one.mpr ⟨by rw [txt_len]; (first | lia | omega), txt_q⟩, fun i h1 h2 h3 => ?_⟩
  have h4 := (hit_one.mp h3).2
  have h5 := hS.2 (i - H.length) (by (first | lia | omega))
  rw [← txt_sys (H := H) (I := I) (Z := Z) (by (first | lia | omega)), show H.length + (i - H.length) = i by (first | lia | omega), h4] at h5
  exact absurd h5 (by decide)
end
theorem sys_bad {c : Nat} (h : c ∈ [115, 46, 233, 127, 93, 60, 39, 65533, 1, 11, 65534]) : isCh c = false ↔ c ∈ [1, 11, 65534] := by
  simp only [List.mem_cons, List.not_mem_nil, or_false] at h
  rcases h with rfl | rfl | rfl | rfl | rfl | rfl | rfl | rfl | rfl | rfl | rfl <;> decide
/-- a read outer name and what the law says of it -/
theorem outer_of (w mean mg mb) {T S : Str} {q : Nat} {pub : CTok → Value} (hF : Fst T ⟨#[34]⟩ (q + 1) (some (q + 1 + S.length))) (hs : sub T (q + 1) (q + 1 + S.length) = S) (hl : q + S.length + 2 < T.length) (hb : ch T (q + S.length + 2) = 91) (hg : Good T (q + S.length + 2))
    (h : CM w mean mg mb 9 286 T 12 [] (SysPost T q pub)) :
    CM w mean mg mb 9 286 T 12 [] (OutP T (fun p _ => ∃ i, BadAt S (some i) ∧ p = q + 1 + i) (fun v1 v2 n => (∃ t, v1 = pub t) ∧ (∃ t, v2 = .str S t) ∧ BadAt S none ∧ n = q + S.length + 2)) := by
  refine CM.imp h fun R X hp r hr => ?_
  have e := hr.only hF
  subst e
  refine ⟨fun z => (nomatch z), fun j z b hB => ?_⟩
  injection z with z
  subst z
  rw [hs] at hB ⊢
  refine ⟨fun z t t' => ?_, fun i z => ?_⟩
  · subst z
    rw [show q + 1 + S.length + 1 = q + S.length + 2 by (first | lia | omega)]
    exact hp.2 _ _ _ ⟨⟨_, rfl⟩, ⟨_, rfl⟩, hB, rfl⟩ hl (sps0 hl (by rw [hb]; decide)) (by rw [show Str.ofString "[" = ⟨#[91]⟩ by decide +kernel]; exact hit_one.mpr ⟨hl, hb⟩) hg
  · subst z
    exact hp.1 _ _ ⟨i, hB, rfl⟩
/-- how read_doctype ends, by the law's outcome -/
noncomputable abbrev DoP (L : Out → Prop) (v1 v2 : CTok → Value) : CPost := fun R X =>
  ∀ o, L o → (∀ p, o = .fault p → ∀ k', X p k') ∧ (∀ x e, o = .doc x e → ∀ t0 t1 t2 t3 t4, R (.tup [.str (Str.ofString "doctype") t0, .str ⟨#[97]⟩ t1, v1 t2, v2 t3, .str x t4]) e)
theorem doc_of (w mean mg mb) {T S : Str} {q : Nat} {pub : CTok → Value}
    (h : CM w mean mg mb 10 300 T 0 [] (DocP T (fun p _ => ∃ i, BadAt S (some i) ∧ p = q + 1 + i) (fun v1 v2 n => (∃ t, v1 = pub t) ∧ (∃ t, v2 = .str S t) ∧ BadAt S none ∧ n = q + S.length + 2))) :
    CM w mean mg mb 10 300 T 0 [] (DoP (Lw T S q) pub (fun t => .str S t)) := by
  refine CM.imp h fun R X hp => ⟨?_, ?_⟩
  · rintro p k' ⟨i, hB, rfl⟩
    exact (hp _ (.bad hB)).1 _ rfl k'
  · rintro v1 v2 n ⟨⟨t, rfl⟩, ⟨t', rfl⟩, hB, rfl⟩ ok p hr
    refine ⟨fun z j hs => ⟨fun hh t0 t1 t2 => ?_, fun hh => ?_⟩, fun z k' => ?_⟩
    · subst z
      exact (hp _ (.ok hB hr hs hh)).2 _ _ rfl t0 t1 t t' t2
    · subst z
      exact (hp _ (.noend hB hr hs hh)).1 _ rfl _
    · subst z
      exact (hp _ (.br hB hr)).1 _ rfl _
noncomputable abbrev headS : Str := Str.ofString "<!DOCTYPE a SYSTEM \""
noncomputable abbrev headP : Str := Str.ofString "<!DOCTYPE a PUBLIC 'p' \""
theorem headS_len : headS.length = 20 := by decide +kernel
theorem headP_len : headP.length = 24 := by decide +kernel
section
variable {S I Z : Str}
theorem doc_S (w mean mg mb) (hS : SgOk S) (hI : Pr I) (hZ : Pr Z) (hIl : I.length ≤ 60) (hZl : Z.length ≤ 40) : CM w mean mg mb 10 300 (txt headS S I Z) 0 [] (DoP (Lw (txt headS S I Z) S 19) (fun _ => .none) (fun t => .str S t)) := by
  have hl := txt_len (H := headS) (S := S) (I := I) (Z := Z)
  rw [headS_len] at hl
  have hS4 := hS.1
  have c : ∀ i, i < 20 → ch (txt headS S I Z) i = ch headS i := fun i hi => txt_head (by rw [headS_len]; exact hi)
  have hh : ∀ {W i}, Hit headS W i → Hit (txt headS S I Z) W i := fun h => hit_l (hit_l (hit_l (hit_l h)))
  have hq := txt_br (H := headS) (S := S) (I := I) (Z := Z)
  have hg := txt_good (H := headS) (S := S) hI hZ
  have hF := txt_fst (H := headS) (I := I) (Z := Z) hS
  have hsb := txt_sub (H := headS) (S := S) (I := I) (Z := Z)
  rw [headS_len] at hq hg hF hsb
  refine doc_of w mean mg mb (read_doctype_spec w mean mg mb _ _ _ (by (first | lia | omega)) (by (first | lia | omega)) (hh (by decide +kernel)) (sps1 (by (first | lia | omega)) (by rw [c 9 (by (first | lia | omega))]; decide +kernel) (by rw [c 10 (by (first | lia | omega))]; decide +kernel)) (by rw [c 10 (by (first | lia | omega))]; decide +kernel) (by rw [c 11 (by (first | lia | omega))]; decide +kernel)
    (sps1 (by (first | lia | omega)) (by rw [c 11 (by (first | lia | omega))]; decide +kernel) (by rw [c 12 (by (first | lia | omega))]; decide +kernel)) ?_)
  refine outer_of w mean mg mb (q := 19) (pub := fun _ => .none) hF hsb (by (first | lia | omega)) (by rw [show 19 + S.length + 2 = 20 + S.length + 1 by (first | lia | omega)]; exact hq) (by rw [show 19 + S.length + 2 = 20 + S.length + 1 by (first | lia | omega)]; exact hg) ?_
  exact outer_sys w mean mg mb _ 12 (by (first | lia | omega)) (by (first | lia | omega)) (hh (by decide +kernel)) (sps1 (by (first | lia | omega)) (by rw [c 18 (by (first | lia | omega))]; decide +kernel) (by rw [c 19 (by (first | lia | omega))]; decide +kernel)) (by rw [c 19 (by (first | lia | omega))]; decide +kernel)
theorem doc_P (w mean mg mb) (hS : SgOk S) (hI : Pr I) (hZ : Pr Z) (hIl : I.length ≤ 60) (hZl : Z.length ≤ 40) : CM w mean mg mb 10 300 (txt headP S I Z) 0 [] (DoP (Lw (txt headP S I Z) S 23) (fun t => .str (Str.ofString "p") t) (fun t => .str S t)) := by
  have hl := txt_len (H := headP) (S := S) (I := I) (Z := Z)
  rw [headP_len] at hl
  have hS4 := hS.1
  have c : ∀ i, i < 24 → ch (txt headP S I Z) i = ch headP i := fun i hi => txt_head (by rw [headP_len]; exact hi)
  have hh : ∀ {W i}, Hit headP W i → Hit (txt headP S I Z) W i := fun h => hit_l (hit_l (hit_l (hit_l h)))
  have hq := txt_br (H := headP) (S := S) (I := I) (Z := Z)
  have hg := txt_good (H := headP) (S := S) hI hZ
  have hF := txt_fst (H := headP) (I := I) (Z := Z) hS
  have hsb := txt_sub (H := headP) (S := S) (I := I) (Z := Z)
  rw [headP_len] at hq hg hF hsb
  refine doc_of w mean mg mb (read_doctype_spec w mean mg mb _ _ _ (by (first | lia | omega)) (by (first | lia | omega)) (hh (by decide +kernel)) (sps1 (by (first | lia | omega)) (by rw [c 9 (by (first | lia | omega))]; decide +kernel) (by rw [c 10 (by (first | lia | omega))]; decide +kernel)) (by rw [c 10 (by (first | lia | omega))]; decide +kernel) (by rw [c 11 (by (first | lia | omega))]; decide +kernel)
    (sps1 (by (first | lia | omega)) (by rw [c 11 (by (first | lia | omega))]; decide +kernel) (by rw [c 12 (by (first | lia | omega))]; decide +kernel)) ?_)
  refine outer_of w mean mg mb (q := 23) (pub := fun t => .str (Str.ofString "p") t) hF hsb (by (first | lia | omega)) (by rw [show 23 + S.length + 2 = 24 + S.length + 1 by (first | lia | omega)]; exact hq) (by rw [show 23 + S.length + 2 = 24 + S.length + 1 by (first | lia | omega)]; exact hg) ?_
  exact outer_pub w mean mg mb _ 12 (by (first | lia | omega)) (by (first | lia | omega)) (fun h => by
      rw [show Str.ofString "SYSTEM" = ⟨[83, 89, 83, 84, 69, 77].toArray⟩ by decide +kernel] at h
      have := (hit_cons.mp h).1.2
      rw [c 12 (by (first | lia | omega))] at this
      exact absurd this (by decide +kernel)) (hh (by decide +kernel)) (sps1 (by (first | lia | omega)) (by rw [c 18 (by (first | lia | omega))]; decide +kernel) (by rw [c 19 (by (first | lia | omega))]; decide +kernel)) (by rw [c 19 (by (first | lia | omega))]; decide +kernel) (by rw [c 20 (by (first | lia | omega))]; decide +kernel) (by rw [c 21 (by (first | lia | omega))]; decide +kernel)
      (sps1 (by (first | lia | omega)) (by rw [c 22 (by (first | lia | omega))]; decide +kernel) (by rw [c 23 (by (first | lia | omega))]; decide +kernel)) (by rw [c 23 (by (first | lia | omega))]; decide +kernel)
end
end Mine
end -- Lc
section -- Ld
namespace Mine
section
variable {h₀ : Heap} {L : Addr} {m : Str → Option Value} {s : Shared} {Q : Value → Shared → Prop}
/-- an outcome comes back -/
noncomputable def RetO (h₀ : Heap) (L : Addr) (m : Str → Option Value) (s : Shared) (Q : Value → Shared → Prop) (led : List (Addr × Obj)) (v1 v2 : CTok → Value) : Out → Prop
  | .fault p => ∀ (t : CTok) (a : Addr), (∀ q ∈ led, @LT.lt Nat _ q.1 a) → RetTo h₀ L m s Q (.ref a) ((a, tupO [.none, .int (p : Nat) t]) :: led)
  | .doc x e => ∀ (t0 t1 t2 t3 t4 t5 : CTok) (ev a : Addr), (∀ q ∈ led, @LT.lt Nat _ q.1 ev) → (∀ q ∈ led, @LT.lt Nat _ q.1 a) → @LT.lt Nat _ ev a →
      RetTo h₀ L m s Q (.ref a) ((a, tupO [.ref ev, .int (e : Nat) t5]) :: (ev, tupO [.str (Str.ofString "doctype") t0, .str ⟨#[97]⟩ t1, v1 t2, v2 t3, .str x t4]) :: led)
end
section
open LCg LCt
theorem CompEnd.imp {h₀ : Heap} {L I C D : Addr} {m : Str → Option Value} {s₁ s₂ : Shared} {oI oC oD : Obj} {S : List (Addr × Obj) → Prop} {rest rest' : Value → List (Addr × Obj) → Prop} {y : Value} (h : ∀ n, rest y n → rest' y n) :
    CompEnd h₀ L m s₁ I oI C oC D oD S rest y s₂ → CompEnd h₀ L m s₁ I oI C oC D oD S rest' y s₂ := fun ⟨h', tk, n, e, F, N, o, hS, r⟩ => ⟨h', tk, n, e, F, N, o, hS, h n r⟩
theorem restT_inv {prog : Program} {w : World} {A : Around} {h₀ : Heap} {L : Addr} {m : Str → Option Value} {env : Env} {ct elt : Expr} {x : Str} {scope : Scope} {cl : List (Str × Addr)} {s : Shared} {S : List (Addr × Obj) → Prop} {P : Nat → Value → Prop}
    {Fin : List Value → List (Addr × Obj) → Prop} (n : Nat) (J : Nat → List Value → List (Addr × Obj) → Prop)
    (step : ∀ i ys news, i < n → J i ys news → ∀ v I oI C oC D m₂ h tk (E' : Value → Shared → Prop), P i v → NsObj oC m₂ → m₂ x = some v → Fr h₀ L h m → News h₀ L h ((I, oI) :: (C, oC) :: (D, lst ys) :: news) → Off3 I C D news → ((@Ne Nat I C) ∧ (@Ne Nat I D) ∧ (@Ne Nat C D)) →
      wpAny (model prog w) A (isTrue ct (compEnvC scope cl C env) (eval ct (compEnvC scope cl C env))) (fun ok s' => if ok = true then
        wpAny (model prog w) A (eval elt (compEnvC scope cl C env)) (CompEnd h₀ L m { s with heap := h, toks := tk } I oI C oC D (lst ys) S (fun y news' => J (i + 1) (ys ++ [y]) news')) E' s'
        else CompEnd h₀ L m { s with heap := h, toks := tk } I oI C oC D (lst ys) S (fun _ news' => J (i + 1) ys news') Value.none s') E' { s with heap := h, toks := tk })
    (done : ∀ ys news, J n ys news → Fin ys news) :
    ∀ k i ys news, i + k = n → J i ys news → CompRestT prog w A h₀ L m env ct elt x scope cl s S P Fin k i ys news
  | 0, i, ys, news, e, h => CompRestT.zero (done _ _ (by rw [← e]; exact h))
  | k + 1, i, ys, news, e, h => CompRestT.succ fun v I oI C oC D m₂ h' tk E' hv hC hx F N off ne =>
    wpAny_mono (step i ys news (by (first | lia | omega)) h v I oI C oC D m₂ h' tk E' hv hC hx F N off ne) (fun ok s' q => by
      cases ok with
      | true => exact wpAny_mono q (fun y s'' r => CompEnd.imp (fun n r => restT_inv _ J step done k (i + 1) _ _ (by (first | lia | omega)) r) r) fun _ _ z => z
      | false =>
        rw [if_neg Bool.false_ne_true] at q
        exact CompEnd.imp (rest' := fun _ news' => CompRestT prog w A h₀ L m env ct elt x scope cl s S P Fin k (i + 1) ys news') (fun n r => restT_inv _ J step done k (i + 1) _ _ (by (first | lia | omega)) r) q) fun _ _ z => z
theorem rest_inv {prog : Program} {w : World} {A : Around} {h₀ : Heap} {L : Addr} {m : Str → Option Value} {env : Env} {elt : Expr} {x : Str} {scope : Scope} {cl : List (Str × Addr)} {s : Shared} {S : List (Addr × Obj) → Prop} {P : Nat → Value → Prop}
    {Fin : List Value → List (Addr × Obj) → Prop} (n : Nat) (J : Nat → List Value → List (Addr × Obj) → Prop)
    (step : ∀ i ys news, i < n → J i ys news → ∀ v I oI C oC D m₂ h tk (E' : Value → Shared → Prop), P i v → NsObj oC m₂ → m₂ x = some v → Fr h₀ L h m → News h₀ L h ((I, oI) :: (C, oC) :: (D, lst ys) :: news) → Off3 I C D news → ((@Ne Nat I C) ∧ (@Ne Nat I D) ∧ (@Ne Nat C D)) →
      wpAny (model prog w) A (eval elt (compEnvC scope cl C env)) (CompEnd h₀ L m { s with heap := h, toks := tk } I oI C oC D (lst ys) S (fun y news' => J (i + 1) (ys ++ [y]) news')) E' { s with heap := h, toks := tk })
    (done : ∀ ys news, J n ys news → Fin ys news) :
    ∀ k i ys news, i + k = n → J i ys news → CompRest prog w A h₀ L m env elt x scope cl s S P Fin k i ys news
  | 0, i, ys, news, e, h => CompRest.zero (done _ _ (by rw [← e]; exact h))
  | k + 1, i, ys, news, e, h => CompRest.succ fun v I oI C oC D m₂ h' tk E' hv hC hx F N off ne =>
    wpAny_mono (step i ys news (by (first | lia | omega)) h v I oI C oC D m₂ h' tk E' hv hC hx F N off ne) (fun y s'' r => CompEnd.imp (fun n r => rest_inv _ J step done k (i + 1) _ _ (by (first | lia | omega)) r) r) fun _ _ z => z
end
/-- the places below i of signs that no document has -/
noncomputable def OddAt (S : Str) (i : Nat) (ns : List Int) : Prop := (ns = [] ∧ ∀ v, v < i → isCh (ch S v) = true) ∨ (∃ k : Nat, ∃ r, ns = (k : Int) :: r ∧ k < i ∧ isCh (ch S k) = false ∧ ∀ v, v < k → isCh (ch S v) = true)
theorem OddAt.no {S : Str} {i : Nat} {ns : List Int} (h : OddAt S i ns) (c : isCh (ch S i) = true) : OddAt S (i + 1) ns := by
  rcases h with ⟨e, h⟩ | ⟨k, r, e, h1, h2⟩
  · exact .inl ⟨e, fun v hv => (Nat.lt_or_ge v i).elim (h v) fun q => by rw [show v = i by (first | lia | omega)]; exact c⟩
  · exact .inr ⟨k, r, e, by (first | lia | omega), h2⟩
theorem OddAt.yes {S : Str} {i : Nat} {ns : List Int} (h : OddAt S i ns) (c : isCh (ch S i) = false) : OddAt S (i + 1) (ns ++ [(i : Int)]) := by
  rcases h with ⟨e, h⟩ | ⟨k, r, e, h1, h2⟩
  · exact .inr ⟨i, [], by rw [e]; rfl, by (first | lia | omega), c, h⟩
  · exact .inr ⟨k, r ++ [(i : Int)], by rw [e]; rfl, by (first | lia | omega), h2⟩
abbrev OddJ (e : List (Addr × Obj)) (S : Str) (i : Nat) (ys : List Value) (news : List (Addr × Obj)) : Prop := news = e ∧ ∃ ns, IntsAre ys ns ∧ OddAt S i ns
theorem oddj_st {e : List (Addr × Obj)} {S : Str} {i n : Nat} {ys : List Value} {X : List (Addr × Obj) → Prop} (k : ∀ ns, i < n → IntsAre ys ns → OddAt S i ns → X e) (news : List (Addr × Obj)) (hi : i < n) (h : OddJ e S i ys news) : X news := by
  obtain ⟨rfl, ns, h1, h2⟩ := h
  exact k ns hi h1 h2
theorem oddj_dn {e : List (Addr × Obj)} {S : Str} {X : List Value → List (Addr × Obj) → Prop} (k1 : BadAt S none → X [] e) (k2 : ∀ (k : Nat) r t vs, IntsAre vs r → BadAt S (some k) → X (.int k t :: vs) e) (ys : List Value) (news : List (Addr × Obj)) (h : OddJ e S S.length ys news) : X ys news := by
  obtain ⟨rfl, ns, h1, h | ⟨k, r, rfl, hk, ho⟩⟩ := h
  · obtain ⟨rfl, h⟩ := h
    obtain rfl := h1.nil_inv
    exact k1 h
  · obtain ⟨t, vs, rfl, h2⟩ := h1.cons_inv
    exact k2 k r t vs h2 ⟨hk, ho⟩
theorem odd_in (S : Str) (hS : SgOk S) {i : Nat} (hi : i < S.length) : (Builtin.Str.occurrences (Str.ofString "\x01\x0b\ufffe") ⟨#[ch S i]⟩ 0 (Str.ofString "\x01\x0b\ufffe").length 1).isEmpty = isCh (ch S i) := by
  have e := StrLaws.found_one (Str.ofString "\x01\x0b\ufffe") (ch S i)
  rw [show (Str.ofString "\x01\x0b\ufffe").cps.toList = [1, 11, 65534] by decide +kernel] at e
  have h := sys_bad (hS.2 i hi)
  have e2 : (!(!(Builtin.Str.occurrences (Str.ofString "\x01\x0b\ufffe") ⟨#[ch S i]⟩ 0 (Str.ofString "\x01\x0b\ufffe").length 1).isEmpty)) = !decide (ch S i ∈ [1, 11, 65534]) := congrArg (fun b => !b) e
  rw [Bool.not_not] at e2
  rw [e2]
  by_cases q : ch S i ∈ [1, 11, 65534]
  · rw [h.mpr q, decide_eq_true q]; rfl
  · rw [decide_eq_false q]
    cases z : isCh (ch S i) with
    | true => rfl
    | false => exact absurd (h.mp z) q
theorem br_named {P : Prop} {T : Str} {b a : Nat} {ok : Bool} {p : Nat} (h : Br T b a ok p) (k : ∀ p', p' = p → Br T b a ok p' → P) : P := k p rfl h
theorem sps_of {T : Str} {n k j : Nat} (hg : ∀ i, n < i → i < T.length → 32 ≤ ch T i ∧ ch T i ≤ 126) (hn : n < k) (h1 : k ≤ j) (h2 : j ≤ T.length) (h3 : ∀ i, k ≤ i → i < j → ch T i = 32) (h4 : ¬ Hit T (Str.ofString " ") j) : Sps T k j :=
  ⟨h1, h2, fun i a b => by rw [h3 i a b]; decide, fun q => by
    rw [pr_sp (hg j (by (first | lia | omega)) q)]
    rw [show Str.ofString " " = ⟨#[32]⟩ by decide +kernel, hit_one] at h4
    exact beq_eq_false_iff_ne.mpr fun z => h4 ⟨q, z⟩⟩
theorem law_bracket2 (w mean mg mb) (T : Str) (tT : CTok) (n : Nat) (tb : CTok) (hT : T.length ≤ 1000) (hb : n + 2 ≤ T.length) : PT w mean mg mb 2 1000 [.str T tT, .int ((n : Int) + 2) tb] fun R => ∀ ok p, Br T (n + 2) (n + 2) ok p → ∀ t, R (.tup [.bool ok, .int (p : Nat) t]) :=
  law_bracket_spec w mean mg mb T tT (n + 2) tb hT hb
local macro_rules | `(tactic| walk_at "exec Assign cons ListComp") => `(tactic| (k_here; refine Stop.at ?_))
local macro_rules | `(tactic| walk_at "compareOp NotEq ref ref") => `(tactic| (k_here; refine Stop.at ?_))
local macro_rules | `(tactic| walk_at "CompSrcT") => `(tactic| (k_here; refine Stop.at ?_))
set_option maxHeartbeats 8000000 in
theorem law_due_spec (w mean mg mb) (H S I Z : Str) (tH tS tI tZ : CTok) (pv : Value) (q : Nat) (hH : H.length = q + 1) (hq : q ≤ 23) (hS : SgOk S) (hI : Pr I) (hZ : Pr Z) (hIl : I.length ≤ 60) (hZl : Z.length ≤ 40) (led : List (Addr × Obj)) :
    CallsTo w mean mg mb 16 1005 led [.str H tH, pv, .str S tS, .str I tI, .str Z tZ] fun base h₀ fr L m s Q E => ∀ o, Lw (txt H S I Z) S q o → RetO h₀ L m s Q led (fun _ => pv) (fun t => .str S t) o := by
  have hS4 : S.length ≤ 4 := hS.1
  have hH9 : H.length ≤ 24 := by (first | lia | omega)
  have h2q : (Str.ofString "\"[").length = 2 := by rw [two_q]; rfl
  unfold CallsTo
  intros
  rename_i hret
  refine wpAny_call ?_
  k_dflt (refine' code_defC ?k1 ?k2 ?k3 ?k4 ?k5 ?kA ?kF ?kK ?k6 ?k7 ?k8 ?k9 ?kB ?kD ?_ ?c2 ?c3 ?c4; (case kA => exact rfl); (case kF => exact rfl); (case kK => first | exact rfl | assumption); (case k1 => k_asm); (case k2 => k_asm); (case k3 => k_asm); (case k4 => k_asm); (case k5 => k_asm); (case k6 => k_is); (case k7 => k_is); (case k8 => ktr_room); (case k9 => first | exact BindsTo.of_eq rfl | exact binds_K (by k_in) rfl (by k_is) rfl rfl rfl); (case kB => exact rfl); (case kD => decide +kernel); (case c2 => exact rfl); (case c3 => exact rfl); (case c4 => exact rfl); k_whole; intro g' L' h' tk' cells' FG' F' N' Y' B' X' T' l1; (try k_lt l1); k_cells Y'; (try simp only [List.cons_append, List.nil_append] at N'); (try dsimp only); (try k_fold))
  (k_steps; (try repeat' ((with_reducible refine Stop.by ?_); (first | ((with_reducible show wpAny _ _ (compareOp CmpOp.NotEq (Value.ref _) (Value.ref _)) _ _ _); (with_unfolding_all refine' ne_intsK ?k1 ?k2 ?k3 ?k4 ?k5 ?_; (case k1 => is_list); (case k2 => first | assumption | exact IntsAre.cons _ _ (by assumption) | exact IntsAre.nil); (case k3 => is_list); (case k4 => first | exact IntsAre.nil | assumption); (case k5 => ktr_units); k_whole)) | ((with_reducible show wpAny _ _ (exec (Stmt.Assign _ _ _) _) _ _ _); k_dflt (refine LCt.Assign_ListComp_T (F₀ := by k_asm) (by rfl) (by with_unfolding_all rfl) (by with_unfolding_all rfl) (by decide) (by rfl) (by decide) (by rfl) (by rfl) (by rfl) ?_)) | ((with_reducible show wpAny _ _ (call (Value.ref 150) _) _ _ _); k_dflt (refine' CallsTo.use (sf_call _ _ _ _ _ _ _ _ _) ?z1 ?z2 ?z3 ?z4 ?z5 ?zK ?zd ?zu ?_; (case z1 | z2 | z3 | z4 | z5 => k_asm); (case zK => first | exact rfl | assumption); (case zd => first | exact room_d (by assumption) (by exact rfl) | exact room_e (by assumption) (by exact rfl) | ktr_room); (case zu => first | exact room_u (by assumption) (by exact rfl) | exact room_v (by assumption) (by exact rfl) | exact room_x (by assumption) (by exact rfl) | exact room_w (by assumption) (by exact rfl) | exact room_y (by assumption) (by exact rfl) | ktr_units); intro e' t' oe' h' tk' hX' hg' hc' hd' hM'; (try dsimp only))) | ((with_reducible show wpAny _ _ (exec (Stmt.Raise _ _ _) _) _ _ _); k_dflt (refine' raise150 ?h ?_; (case h => exact rfl); (try k_fold))) | ((with_reducible show Exists _); (rename MadeF _ _ _ _ _ _ _ _ _ => hM9); refine ⟨_, _, _, rfl, by assumption, by assumption, by assumption, by assumption, ?_⟩) | ((with_reducible show wpAny _ _ (leaving _ (Value.ref _)) _ _ _); (k_dflt first | (refine' leave_newF (hk := by rfl) ?k1 ?k2 ?_; (case k2 => assumption); (case k1 => assumption); k_whole; intro h' R' U'; (try dsimp only at R' U' ⊢)) | (refine' leave_onF ?k1 ?k2 ?k3 ?k4 ?_; (case k3 => assumption); (case k1 => assumption); (case k2 => assumption); (case k4 => assumption); k_whole; intro h' R' U'; (try dsimp only at R' U' ⊢)))) | ((with_reducible show wpAny _ _ (subscriptTail _ _ (Value.str _ _) (Value.int _ _)) _ _ _); (k_dflt (refine' item_at ?hs ?h2 ?_ (by with_unfolding_all rfl) (by intro _; with_unfolding_all rfl); (case hs => omega); (case h2 => omega); (try dsimp only))))); k_steps)))
  refine Stop.by ?_
  rename IsRange _ _ _ _ _ _ _ _ => lR
  rename Fr _ _ _ _ => lF
  rename News _ _ _ _ => lN
  refine LCt.CompSrcT.range (n := S.length) (by rfl) lF lN lR (range_small0 _ (by (first | lia | omega))) (range_size0 _) (by size_fits) ?_
  intro gh
  refine restT_inv S.length (OddJ ((_, _) :: _) S) ?step ?done S.length 0 [] _ (by (first | lia | omega)) ⟨rfl, [], .nil, .inl ⟨rfl, fun v hv => absurd hv (by (first | lia | omega))⟩⟩
  case step =>
    clear lR lF lN
    intro i ys
    with_reducible refine oddj_st ?_
    rintro ns hi hns ho v I' oI C' oC D' m2 h' tk' E' ⟨tv, hv⟩ hC hx cF cN off ne
    rw [Int.zero_add] at hv
    subst hv
    have eo := odd_in S hS hi
    (k_steps; (try repeat' ((with_reducible refine Stop.by ?_); (first | ((with_reducible show wpAny _ _ (compareOp CmpOp.NotEq (Value.ref _) (Value.ref _)) _ _ _); (with_unfolding_all refine' ne_intsK ?k1 ?k2 ?k3 ?k4 ?k5 ?_; (case k1 => is_list); (case k2 => first | assumption | exact IntsAre.cons _ _ (by assumption) | exact IntsAre.nil); (case k3 => is_list); (case k4 => first | exact IntsAre.nil | assumption); (case k5 => ktr_units); k_whole)) | ((with_reducible show wpAny _ _ (exec (Stmt.Assign _ _ _) _) _ _ _); k_dflt (refine LCt.Assign_ListComp_T (F₀ := by k_asm) (by rfl) (by with_unfolding_all rfl) (by with_unfolding_all rfl) (by decide) (by rfl) (by decide) (by rfl) (by rfl) (by rfl) ?_)) | ((with_reducible show wpAny _ _ (call (Value.ref 150) _) _ _ _); k_dflt (refine' CallsTo.use (sf_call _ _ _ _ _ _ _ _ _) ?z1 ?z2 ?z3 ?z4 ?z5 ?zK ?zd ?zu ?_; (case z1 | z2 | z3 | z4 | z5 => k_asm); (case zK => first | exact rfl | assumption); (case zd => first | exact room_d (by assumption) (by exact rfl) | exact room_e (by assumption) (by exact rfl) | ktr_room); (case zu => first | exact room_u (by assumption) (by exact rfl) | exact room_v (by assumption) (by exact rfl) | exact room_x (by assumption) (by exact rfl) | exact room_w (by assumption) (by exact rfl) | exact room_y (by assumption) (by exact rfl) | ktr_units); intro e' t' oe' h' tk' hX' hg' hc' hd' hM'; (try dsimp only))) | ((with_reducible show wpAny _ _ (exec (Stmt.Raise _ _ _) _) _ _ _); k_dflt (refine' raise150 ?h ?_; (case h => exact rfl); (try k_fold))) | ((with_reducible show Exists _); (rename MadeF _ _ _ _ _ _ _ _ _ => hM9); refine ⟨_, _, _, rfl, by assumption, by assumption, by assumption, by assumption, ?_⟩) | ((with_reducible show wpAny _ _ (leaving _ (Value.ref _)) _ _ _); (k_dflt first | (refine' leave_newF (hk := by rfl) ?k1 ?k2 ?_; (case k2 => assumption); (case k1 => assumption); k_whole; intro h' R' U'; (try dsimp only at R' U' ⊢)) | (refine' leave_onF ?k1 ?k2 ?k3 ?k4 ?_; (case k3 => assumption); (case k1 => assumption); (case k2 => assumption); (case k4 => assumption); k_whole; intro h' R' U'; (try dsimp only at R' U' ⊢)))) | ((with_reducible show wpAny _ _ (subscriptTail _ _ (Value.str _ _) (Value.int _ _)) _ _ _); (k_dflt (refine' item_at ?hs ?h2 ?_ (by with_unfolding_all rfl) (by intro _; with_unfolding_all rfl); (case hs => omega); (case h2 => omega); (try dsimp only))))); k_steps)))
    all_goals (rw [eo] at *)
    · exact LCg.CompEnd.intro (by assumption) (by assumption) _ (fun p hp => hp) (by assumption) trivial ⟨rfl, ns, hns, ho.no (by assumption)⟩
    · exact LCg.CompEnd.intro (by assumption) (by assumption) _ (fun p hp => hp) (by assumption) trivial ⟨rfl, _, IntsAre.append hns (.cons _ _ .nil), ho.yes (by assumption)⟩
  case done =>
    clear lR lF lN
    with_reducible refine oddj_dn ?_ ?_
    · intro hBd
      have hHS : (H ++ S).length = q + S.length + 1 := by rw [len_app]; (first | lia | omega)
      (k_steps; (try repeat' ((with_reducible refine Stop.by ?_); (first | ((with_reducible show wpAny _ _ (compareOp CmpOp.NotEq (Value.ref _) (Value.ref _)) _ _ _); (with_unfolding_all refine' ne_intsK ?k1 ?k2 ?k3 ?k4 ?k5 ?_; (case k1 => is_list); (case k2 => first | assumption | exact IntsAre.cons _ _ (by assumption) | exact IntsAre.nil); (case k3 => is_list); (case k4 => first | exact IntsAre.nil | assumption); (case k5 => ktr_units); k_whole)) | ((with_reducible show wpAny _ _ (exec (Stmt.Assign _ _ _) _) _ _ _); k_dflt (refine LCt.Assign_ListComp_T (F₀ := by k_asm) (by rfl) (by with_unfolding_all rfl) (by with_unfolding_all rfl) (by decide) (by rfl) (by decide) (by rfl) (by rfl) (by rfl) ?_)) | ((with_reducible show wpAny _ _ (call (Value.ref 1000) _) _ _ _); k_dflt (refine' CallsTo.use ?zs ?z1 ?z2 ?z3 ?z4 ?z5 ?zK ?zd ?zu ?_; (case z1 | z2 | z3 | z4 | z5 => k_asm); (case zK => first | exact rfl | assumption); (case zs => exact (PT.use (law_bracket2 _ _ _ _ _ _ _ _ (by walk_at "zz side") (by walk_at "zz side")) _)); (case zd => first | exact room_d (by assumption) (by exact rfl) | exact room_e (by assumption) (by exact rfl) | ktr_room); (case zu => first | exact room_u (by assumption) (by exact rfl) | exact room_v (by assumption) (by exact rfl) | exact room_x (by assumption) (by exact rfl) | exact room_w (by assumption) (by exact rfl) | exact room_y (by assumption) (by exact rfl) | ktr_units); (try dsimp only [RetV, len_0, len_1, len_2, len_3, len_4, len_5, len_6, len_7, len_8, len_9, len_10, len_11, len_12, len_13, len_14, len_15, len_16, len_17, len_18]); (with_reducible (repeat' (first | (refine And.intro ?_ ?_) | intro))); (all_goals (try dsimp only)); (all_goals (try (rename (∀ p : Addr × Obj, _ ∈ _ → @LT.lt Nat _ _ _) => zl1; k_lt zl1))); (all_goals (try contradiction)))) | ((with_reducible show wpAny _ _ (call (Value.ref 150) _) _ _ _); k_dflt (refine' CallsTo.use (sf_call _ _ _ _ _ _ _ _ _) ?z1 ?z2 ?z3 ?z4 ?z5 ?zK ?zd ?zu ?_; (case z1 | z2 | z3 | z4 | z5 => k_asm); (case zK => first | exact rfl | assumption); (case zd => first | exact room_d (by assumption) (by exact rfl) | exact room_e (by assumption) (by exact rfl) | ktr_room); (case zu => first | exact room_u (by assumption) (by exact rfl) | exact room_v (by assumption) (by exact rfl) | exact room_x (by assumption) (by exact rfl) | exact room_w (by assumption) (by exact rfl) | exact room_y (by assumption) (by exact rfl) | ktr_units); intro e' t' oe' h' tk' hX' hg' hc' hd' hM'; (try dsimp only))) | ((with_reducible show wpAny _ _ (exec (Stmt.Raise _ _ _) _) _ _ _); k_dflt (refine' raise150 ?h ?_; (case h => exact rfl); (try k_fold))) | ((with_reducible show Exists _); (rename MadeF _ _ _ _ _ _ _ _ _ => hM9); refine ⟨_, _, _, rfl, by assumption, by assumption, by assumption, by assumption, ?_⟩) | ((with_reducible show wpAny _ _ (leaving _ (Value.ref _)) _ _ _); (k_dflt first | (refine' leave_newF (hk := by rfl) ?k1 ?k2 ?_; (case k2 => assumption); (case k1 => assumption); k_whole; intro h' R' U'; (try dsimp only at R' U' ⊢)) | (refine' leave_onF ?k1 ?k2 ?k3 ?k4 ?_; (case k3 => assumption); (case k1 => assumption); (case k2 => assumption); (case k4 => assumption); k_whole; intro h' R' U'; (try dsimp only at R' U' ⊢)))) | ((with_reducible show wpAny _ _ (subscriptTail _ _ (Value.str _ _) (Value.int _ _)) _ _ _); (k_dflt (refine' item_at ?hs ?h2 ?_ (by with_unfolding_all rfl) (by intro _; with_unfolding_all rfl); (case hs => omega); (case h2 => omega); (try dsimp only))))); k_steps)))
      · refine Stop.by ?_
        rename Br _ _ _ _ _ => hBr0
        rename _ = true => hz
        subst hz
        refine br_named hBr0 fun p ep hBr => ?_
        subst ep
        clear hBr0
        have hp := hBr.le rfl
        rename Fr _ _ _ _ => lF
        rename News _ _ _ _ => lN
        refine whl_st (hE := by passes_own) (Str.ofString "behind") [] (fun b => p + 1 ≤ b ∧ b ≤ (H ++ S ++ Str.ofString "\"[" ++ I ++ Z).length ∧ ∀ i, p + 1 ≤ i → i < b → ch (H ++ S ++ Str.ofString "\"[" ++ I ++ Z) i = 32) (fun b => (H ++ S ++ Str.ofString "\"[" ++ I ++ Z).length - b) (p + 1) lF lN rfl ⟨Nat.le_refl _, by (first | lia | omega), fun i a b => absurd a (by (first | lia | omega))⟩ ?_
        intro b tb u h tk hb cF cN
        have hb1 := hb.1
        have hb2 := hb.2.1
        have hb3 := hb.2.2
        clear hb
        clear lF lN
        have e1 : (Txt.slice (H ++ S ++ Str.ofString "\"[" ++ I ++ Z) (some (b : Int)) (some ((b : Int) + 1)) == Str.ofString " ") = decide (Hit (H ++ S ++ Str.ofString "\"[" ++ I ++ Z) (Str.ofString " ") b) := slice_hit _ _ 1 rfl (by (first | lia | omega)) hb2
        have e2 : (Txt.slice (H ++ S ++ Str.ofString "\"[" ++ I ++ Z) (some (b : Int)) (some ((b : Int) + 1)) != Str.ofString ">") = !decide (Hit (H ++ S ++ Str.ofString "\"[" ++ I ++ Z) (Str.ofString ">") b) := congrArg (fun z => !z) (slice_hit _ _ 1 rfl (by (first | lia | omega)) hb2)
        k_steps
        all_goals (rename (_ == Str.ofString " ") = _ => q2; rw [e1] at q2; (try rw [decide_eq_true_eq] at q2); (try rw [decide_eq_false_iff_not] at q2))
        · rw [show Str.ofString " " = ⟨#[32]⟩ by decide +kernel, hit_one] at q2
          rename News _ _ _ _ => nn
          refine st_end (a' := b + 1) (by assumption) nn (fun p hp => hp) rfl (fun z h1 h2 => ?keep) ⟨?_, ?_, fun i h1 h2 => ?_⟩ ?_
          case keep => simp only [if_neg h1, List.contains_nil, Bool.false_eq_true, if_false]
          · (first | lia | omega)
          · (first | lia | omega)
          · exact (Nat.lt_or_ge i b).elim (fun q => hb3 i h1 q) fun q => by rw [show i = b by (first | lia | omega)]; exact q2.2
          · (first | lia | omega)
        · have hsp := sps_of (n := H.length + S.length + 1) (fun i a c => txt_pr (H := H) (S := S) hI hZ a c) (by (first | lia | omega)) hb1 hb2 hb3 q2
          rename (_ != Str.ofString ">") = _ => q3
          rw [e2, Bool.not_eq_true', decide_eq_false_iff_not] at q3
          rw [hHS] at hBr
          have hr := hret _ (Lw.noend hBd hBr hsp q3)
          dsimp only [RetO] at hr
          rename _ ∧ _ ∧ _ ∧ _ ∧ AllLt _ _ => l9
          rename News _ _ _ _ => nn
          exact hr _ _ (fun p hp => kst_ltOf l9.2.2.2.2 p hp) _ _ (by assumption) (fun p hp => nn p (sub_cons (.head _) (fun p hp => .tail _ (.tail _ (.tail _ (.tail _ (.tail _ hp))))) p hp))
        · have hsp := sps_of (n := H.length + S.length + 1) (fun i a c => txt_pr (H := H) (S := S) hI hZ a c) (by (first | lia | omega)) hb1 hb2 hb3 q2
          rename (_ != Str.ofString ">") = _ => q3
          rw [e2, Bool.not_eq_false', decide_eq_true_eq] at q3
          rw [hHS] at hBr
          have hr := hret _ (Lw.ok hBd hBr hsp q3)
          dsimp only [RetO] at hr
          rename _ ∧ _ ∧ _ ∧ _ ∧ AllLt _ _ => l8
          rename _ ∧ _ ∧ _ ∧ _ ∧ _ ∧ AllLt _ _ => l9
          rename News _ _ _ _ => nn
          rw [show (((H ++ S).length : Int) + 2) = ((q + S.length + 3 : Nat) : Int) by (first | lia | omega), slice_nat _ (by (first | lia | omega)) (by (first | lia | omega)), show Str.ofString "a" = ⟨#[97]⟩ by decide +kernel] at nn
          exact hr _ _ 0 _ _ _ _ _ (fun p hp => kst_ltOf l8.2.2.2.2 p hp) (fun p hp => kst_ltOf l9.2.2.2.2.2 p hp) l9.1 _ _ (by assumption) (fun p hp => nn p (sub_cons (.head _) (sub_cons (.tail _ (.head _)) (fun p hp => .tail _ (.tail _ (.tail _ (.tail _ (.tail _ (.tail _ hp))))))) p hp))
      · rename Br _ _ _ _ _ => hBr
        rename _ = false => hz
        subst hz
        rw [hHS] at hBr
        have hr := hret _ (Lw.br hBd hBr)
        dsimp only [RetO] at hr
        rename _ ∧ _ ∧ _ ∧ _ ∧ AllLt _ _ => l9
        rename News _ _ _ _ => nn
        exact hr _ _ (fun p hp => kst_ltOf l9.2.2.2.2 p hp) _ _ (by assumption) (fun p hp => nn p (sub_cons (.head _) (fun p hp => .tail _ (.tail _ (.tail _ (.tail _ (.tail _ hp))))) p hp))
    · intro k r tk9 vs9 hns9 hBd
      have z9 : decide ((k : Int) :: r = []) = false := by simp
      have hr := hret _ (Lw.bad hBd)
      dsimp only [RetO] at hr
      (k_steps; (try repeat' ((with_reducible refine Stop.by ?_); ((with_reducible show wpAny _ _ (compareOp CmpOp.NotEq (Value.ref _) (Value.ref _)) _ _ _); (with_unfolding_all refine' ne_intsK ?k1 ?k2 ?k3 ?k4 ?k5 ?_; (case k1 => is_list); (case k2 => first | assumption | exact IntsAre.cons _ _ (by assumption) | exact IntsAre.nil); (case k3 => is_list); (case k4 => first | exact IntsAre.nil | assumption); (case k5 => ktr_units); k_whole)); k_steps)))
      all_goals (try (rename decide _ = true => z8; rw [z9] at z8; cases z8))
      rename _ ∧ _ ∧ _ ∧ AllLt _ _ => l9
      rename News _ _ _ _ => nn
      rw [hH] at nn
      exact hr _ _ (fun p hp => kst_ltOf l9.2.2.2 p hp) _ _ (by assumption) (fun p hp => nn p (sub_cons (.head _) (fun p hp => .tail _ (.tail _ (.tail _ (.tail _ hp)))) p hp))
end Mine
end -- Ld
section -- Le
namespace Mine
/-- a call that may catch a fault: the ground may be another one behind it -/
noncomputable abbrev CallsToS (w : World) (mean : ExcName → Option Value) (mg mb : Str → Option Value) (kk : Nat) (f : Addr) (led : List (Addr × Obj)) (vs : List Value) (Post : (Value → List (Addr × Obj) → Prop) → Prop) : Prop :=
  ∀ (dp un : Nat) (gd : Option (List Code)) (cn : Str) (cs : Scope) (a : Addr) (ccd : Value) (cl : List (Str × Addr)) (outer : List Env) (A₀ : Around) (base g₀ h₀ : Heap) (L : Addr) (m : Str → Option Value) (s : Shared) (Q E : Value → Shared → Prop),
    Below A₀ base outer h₀ → Fr h₀ L s.heap m → (Mine.hd.heap_39 w.params).In h₀ → News h₀ L s.heap led → Top Mine.hd.view_39 ML mean mg mb h₀ →
    (Mine.hd.heap_39 w.params).In base → Top Mine.hd.view_39 ML mean mg mb base → KtsDicts (outer.filterMap (·.frame)) h₀ → KtsTurn (outer.filterMap (·.frame)) g₀ h₀ → cs.kind = .function →
    dp + kk < recursionLimit → un + 8 * kk < cLine →
    Post (fun v led' => ∀ (h₀' h' : Heap) (tk' : Nat), KtsTurn (outer.filterMap (·.frame)) g₀ h₀' → Fr h₀' L h' m → News h₀' L h' led' → Below A₀ base outer h₀' → (Mine.hd.heap_39 w.params).In h₀' → Top Mine.hd.view_39 ML mean mg mb h₀' → KtsDicts (outer.filterMap (·.frame)) h₀' → Q v { s with heap := h', toks := tk' }) →
      wpAny (model MP w) (ktrTop dp un gd cn cs L a ccd cl outer) (call (.ref f) vs) Q E s
local macro_rules | `(tactic| walk_at "noteFrame ref") => `(tactic| (k_here; refine Stop.at ?_))
local macro_rules | `(tactic| walk_at "getAttr ref") => `(tactic| (k_here; (with_reducible rename Obj.cls _ = Value.ref 150 => hq9); refine Stop.at ?_))
set_option maxHeartbeats 8000000 in
theorem told_spec (w mean mg mb) (T : Str) (tT : CTok) (Lg : Out → Prop) (v1 v2 : CTok → Value) (led : List (Addr × Obj)) (hD : CM w mean mg mb 10 300 T 0 [] (DoP Lg v1 v2)) :
    CallsToS w mean mg mb 12 1012 led [.str T tT] fun R => (∀ p, Lg (.fault p) → ∀ (t : CTok) (b : Addr), (∀ q ∈ led, @LT.lt Nat _ q.1 b) → R (.ref b) ((b, tupO [.none, .int (p : Nat) t]) :: led)) ∧
      (∀ x e, Lg (.doc x e) → ∀ (t0 t1 t2 t3 t4 t5 : CTok) (ev b : Addr), (∀ q ∈ led, @LT.lt Nat _ q.1 ev) → (∀ q ∈ led, @LT.lt Nat _ q.1 b) → @LT.lt Nat _ ev b →
        R (.ref b) ((b, tupO [.ref ev, .int (e : Nat) t5]) :: (ev, tupO [.str (Str.ofString "doctype") t0, .str ⟨#[97]⟩ t1, v1 t2, v2 t3, .str x t4]) :: led)) := by
  unfold CallsToS
  intros
  rename_i hret
  refine wpAny_call ?_
  k_dflt (refine' defS_any ?k1 ?k2 ?k3 ?k4 ?k5 ?XB ?TB ?D ?T0 ?kA ?kF ?kK ?k6 ?k7 ?k8 ?k9 ?kB ?_ ?c2 ?c3 ?c4 ?c5; (case kA => exact rfl); (case kF => exact rfl); (case kK => first | exact rfl | assumption); (case k2 => k_asm); (case k1 => k_asm); (case XB => assumption); (case TB => assumption); (case D => assumption); (case T0 => assumption); (case k3 => k_asm); (case k4 => k_asm); (case k5 => k_asm); (case k6 => k_is); (case k7 => k_is); (case k8 => ktr_room); (case k9 => first | exact BindsTo.of_eq rfl | exact binds_K (by k_in) rfl (by k_is) rfl rfl rfl); (case kB => exact locs rfl); (case c2 => exact rfl); (case c3 => exact rfl); (case c4 => exact rfl); (case c5 => decide); k_whole; intro g' L' h' FG' F' N' B' X' T' D'; (try dsimp only); (try k_fold))
  (k_steps; (try repeat' ((with_reducible refine Stop.by ?_); (first | ((with_reducible rename Obj.cls _ = Value.ref 150 => hq9); (with_reducible show wpAny _ _ (getAttr (Value.ref _) _ _) _ _ _); k_dflt (refine' exc_getU (C := 150) ?F ?N ?X ?hx ?hcl ?hdd ?hda ?hga ?hgb ?hp ?hh ?ha ?hn ?hD ?hl ?hv ?_; (case F => k_asm); (case N => k_asm); (case X => k_asm); (case hx => k_mem); (case hcl => assumption); (case hdd => assumption); (case hda => assumption); (case hga => k_is); (case hgb => k_is); (case hp => exact exc150 _); (case hh => k_is); (case ha => k_is); (case hn => first | exact rfl | k_is); (case hD => k_mem); (case hl => exact rfl); (case hv => exact rfl))) | ((with_reducible show wpAny _ _ (call (Value.ref 300) _) _ _ _); k_dflt (refine' CM.useI ?zs ?z1 ?z2 ?z3 ?z4 ?z5 ?zK ?zd ?zu ?zc ?zU ?ze ?_; (case z1 | z2 | z3 | z4 | z5 => k_asm); (case zK => first | exact rfl | assumption); (case zc => k_mem); (case zU => k_updF); (case ze => first | with_reducible exact rfl | with_reducible exact ca1 _ | with_reducible exact caN _ _ | exact ca0); (case zs => exact (by assumption)); (case zd => first | exact room_d (by assumption) (by exact rfl) | exact room_e (by assumption) (by exact rfl) | ktr_room); (case zu => first | exact room_u (by assumption) (by exact rfl) | exact room_v (by assumption) (by exact rfl) | exact room_x (by assumption) (by exact rfl) | exact room_w (by assumption) (by exact rfl) | exact room_y (by assumption) (by exact rfl) | ktr_units); (try dsimp only [RetV, len_0, len_1, len_2, len_3, len_4, len_5, len_6, len_7, len_8, len_9, len_10, len_11, len_12, len_13, len_14, len_15, len_16, len_17, len_18]); (with_reducible (repeat' (first | (refine And.intro ?_ ?_) | intro))); (all_goals (try dsimp only)); (all_goals (try (rename (∀ p : Addr × Obj, _ ∈ _ → @LT.lt Nat _ _ _) => zl1; k_lt zl1))); (all_goals (try contradiction)))) | ((with_reducible show wpAny _ _ (call (Value.ref 150) _) _ _ _); k_dflt (refine' CallsTo.use (sf_call _ _ _ _ _ _ _ _ _) ?z1 ?z2 ?z3 ?z4 ?z5 ?zK ?zd ?zu ?_; (case z1 | z2 | z3 | z4 | z5 => k_asm); (case zK => first | exact rfl | assumption); (case zd => first | exact room_d (by assumption) (by exact rfl) | exact room_e (by assumption) (by exact rfl) | ktr_room); (case zu => first | exact room_u (by assumption) (by exact rfl) | exact room_v (by assumption) (by exact rfl) | exact room_x (by assumption) (by exact rfl) | exact room_w (by assumption) (by exact rfl) | exact room_y (by assumption) (by exact rfl) | ktr_units); intro e' t' oe' h' tk' hX' hg' hc' hd' hM'; (try dsimp only))) | ((with_reducible show wpAny _ _ (exec (Stmt.Raise _ _ _) _) _ _ _); k_dflt (refine' raise150 ?h ?_; (case h => exact rfl); (try k_fold))) | ((with_reducible show Exists _); (rename MadeF _ _ _ _ _ _ _ _ _ => hM9); refine ⟨_, _, _, rfl, by assumption, by assumption, by assumption, by assumption, ?_⟩) | ((with_reducible show wpAny _ _ (leaving _ (Value.ref _)) _ _ _); (k_dflt first | (refine' leave_newF (hk := by rfl) ?k1 ?k2 ?_; (case k2 => assumption); (case k1 => assumption); k_whole; intro h' R' U'; (try dsimp only at R' U' ⊢)) | (refine' leave_onF ?k1 ?k2 ?k3 ?k4 ?_; (case k3 => assumption); (case k1 => assumption); (case k2 => assumption); (case k4 => assumption); k_whole; intro h' R' U'; (try dsimp only at R' U' ⊢)))) | ((with_reducible show wpAny _ _ (subscriptTail _ _ (Value.str _ _) (Value.int _ _)) _ _ _); (k_dflt (refine' item_at ?hs ?h2 ?_ (by with_unfolding_all rfl) (by intro _; with_unfolding_all rfl); (case hs => omega); (case h2 => omega); (try dsimp only))))); k_steps)))
  · refine Stop.by ?_
    rename RaisedF _ _ _ _ _ _ _ _ _ => hR
    refine' caught_F (hk := by rfl) (hlo := by rfl) (hx := by rfl) (hd := by decide) hR ?F ?K ?U ?XB ?TB ?D ?T0 ?ex ?q ?_
    case F => assumption
    case K => assumption
    case U => assumption
    case XB => assumption
    case TB => assumption
    case D => assumption
    case T0 => exact KtsTurn.refl
    case ex => k_is
    case q => kts_isx
    k_whole
    intro h9 g9 tk9 oe9 vs9 de9 t19 mv9 t29 tp9 T9 F9 N9 hc9 hdd9 hdt9 K9 X9 P9 D9
    (k_steps; (try repeat' ((with_reducible refine Stop.by ?_); ((with_reducible rename Obj.cls _ = Value.ref 150 => hq9); (with_reducible show wpAny _ _ (getAttr (Value.ref _) _ _) _ _ _); k_dflt (refine' exc_getU (C := 150) ?F ?N ?X ?hx ?hcl ?hdd ?hda ?hga ?hgb ?hp ?hh ?ha ?hn ?hD ?hl ?hv ?_; (case F => k_asm); (case N => k_asm); (case X => k_asm); (case hx => k_mem); (case hcl => assumption); (case hdd => assumption); (case hda => assumption); (case hga => k_is); (case hgb => k_is); (case hp => exact exc150 _); (case hh => k_is); (case ha => k_is); (case hn => first | exact rfl | k_is); (case hD => k_mem); (case hl => exact rfl); (case hv => exact rfl))); k_steps)))
    rename _ = Out.fault _ => ho
    subst ho
    rename Lg _ => hlg
    rename _ ∧ _ ∧ _ ∧ _ ∧ AllLt _ _ => l9
    rename News _ _ _ _ => nn
    exact hret.1 _ hlg _ _ (fun p hp => kst_ltOf l9.2.2.2.2 p hp) _ _ _ (by assumption) (by assumption) (fun p hp => nn p (sub_cons (.head _) (fun p hp => .tail _ (.tail _ (.tail _ (.tail _ (.tail _ hp))))) p hp)) (by assumption) (by assumption) (by assumption) (by assumption)
  · rename _ = Out.doc _ _ => ho
    subst ho
    rename Lg _ => hlg
    rename _ ∧ _ ∧ AllLt _ _ => l8
    rename _ ∧ _ ∧ _ ∧ AllLt _ _ => l9
    rename News _ _ _ _ => nn
    exact hret.2 _ _ hlg _ _ _ _ _ _ _ _ (fun p hp => kst_ltOf l8.2.2 p hp) (fun p hp => kst_ltOf l9.2.2.2 p hp) l9.1 _ _ _ (by assumption) (by assumption) (fun p hp => nn p (sub_cons (.head _) (sub_cons (.tail _ (.head _)) (fun p hp => .tail _ (.tail _ (.tail _ (.tail _ hp))))) p hp)) (by assumption) (by assumption) (by assumption) (by assumption)
end Mine
end -- Le
section -- Lf
namespace Mine
theorem CallsToS.use {w : World} {mean : ExcName → Option Value} {mg mb : Str → Option Value} {kk : Nat} {f : Addr} {led : List (Addr × Obj)} {vs : List Value} {Post : (Value → List (Addr × Obj) → Prop) → Prop}
    {dp un : Nat} {gd : Option (List Code)} {cn : Str} {cs : Scope} {a : Addr} {ccd : Value} {cl : List (Str × Addr)} {outer : List Env} {A₀ : Around} {base g₀ h₀ : Heap} {L : Addr} {m : Str → Option Value} {s : Shared} {Q E : Value → Shared → Prop}
    (h : CallsToS w mean mg mb kk f led vs Post) (F : Fr h₀ L s.heap m) (B : Below A₀ base outer h₀) (X : (Mine.hd.heap_39 w.params).In h₀) (N : News h₀ L s.heap led) (T : Top Mine.hd.view_39 ML mean mg mb h₀)
    (XB : (Mine.hd.heap_39 w.params).In base) (TB : Top Mine.hd.view_39 ML mean mg mb base) (D : KtsDicts (outer.filterMap (·.frame)) h₀) (T0 : KtsTurn (outer.filterMap (·.frame)) g₀ h₀) (hk : cs.kind = .function)
    (hd : dp + kk < recursionLimit) (hu : un + 8 * kk < cLine)
    (hp : Post (fun v led' => ∀ (h₀' h' : Heap) (tk' : Nat), KtsTurn (outer.filterMap (·.frame)) g₀ h₀' → Fr h₀' L h' m → News h₀' L h' led' → Below A₀ base outer h₀' → (Mine.hd.heap_39 w.params).In h₀' → Top Mine.hd.view_39 ML mean mg mb h₀' → KtsDicts (outer.filterMap (·.frame)) h₀' → Q v { s with heap := h', toks := tk' })) :
    wpAny (model MP w) (ktrTop dp un gd cn cs L a ccd cl outer) (call (.ref f) vs) Q E s := h _ _ _ _ _ _ _ _ _ _ _ _ _ _ _ _ _ _ B F X N T XB TB D T0 hk hd hu hp
theorem due_det (w mean mg mb) (H S I Z : Str) (tH tS tI tZ : CTok) (pv : Value) (q : Nat) (o : Out) (hlg : Lw (txt H S I Z) S q o) (hH : H.length = q + 1) (hq : q ≤ 23) (hS : SgOk S) (hI : Pr I) (hZ : Pr Z) (hIl : I.length ≤ 60) (hZl : Z.length ≤ 40) (led : List (Addr × Obj)) :
    CallsTo w mean mg mb 16 1005 led [.str H tH, pv, .str S tS, .str I tI, .str Z tZ] fun base h₀ fr L m s Q E => RetO h₀ L m s Q led (fun _ => pv) (fun t => .str S t) o := by
  intro dp un gd cn cs a ccd cl outer A₀ base h₀ L m s Q E B F X N T hk hd hu post
  exact law_due_spec w mean mg mb H S I Z tH tS tI tZ pv q hH hq hS hI hZ hIl hZl led _ _ _ _ _ _ _ _ _ _ _ _ _ _ _ _ _ B F X N T hk hd hu fun o' h' => by
    rw [h'.det hlg]; exact post
theorem doc_P' (w mean mg mb) {H S I Z : Str} (e : H = headP) (hS : SgOk S) (hI : Pr I) (hZ : Pr Z) (hIl : I.length ≤ 60) (hZl : Z.length ≤ 40) : CM w mean mg mb 10 300 (txt H S I Z) 0 [] (DoP (Lw (txt H S I Z) S 23) (fun t => .str (Str.ofString "p") t) (fun t => .str S t)) := by
  subst e; exact doc_P w mean mg mb hS hI hZ hIl hZl
theorem strOk_of {x : Str} (h : ∀ i, i < x.length → ch x i < 0x110000) : PyData.strOk x = true := by
  unfold PyData.strOk
  rw [Array.all_eq_true]
  intro i hi
  rw [decide_eq_true_eq]
  have := h i hi
  rwa [show ch x i = x.cps[i] by simp [ch, hi]] at this
theorem Lw.okD {H S I Z x : Str} {q e : Nat} (h : Lw (txt H S I Z) S q (.doc x e)) (hH : H.length = q + 1) (hI : Pr I) (hZ : Pr Z) : PyData.strOk x = true := by
  cases h with
  | ok h1 h2 h3 h4 =>
    have hp := h2.le rfl
    refine strOk_of fun i hi => ?_
    rw [sub_len _ (by omega) (by omega)] at hi
    rw [sub_ch _ (by omega) (by omega) hi]
    have := (txt_pr (H := H) (S := S) hI hZ (i := q + S.length + 3 + i) (by omega) (by omega)).2
    omega
theorem SgOk.str {S : Str} (h : SgOk S) : PyData.strOk S = true := strOk_of fun i hi => by
  have := h.2 i hi
  simp only [List.mem_cons, List.not_mem_nil, or_false] at this
  omega
theorem shp_S {S x : Str} {e : Int} (hS : PyData.strOk S = true) (hx : PyData.strOk x = true) :
    SeqAt.shaped (PyData.tuple [PyData.tuple [PyData.str (Str.ofString "doctype"), PyData.str ⟨#[97]⟩, PyData.none, PyData.str S, PyData.str x], PyData.int e]) = true := by
  have h1 : PyData.strOk (Str.ofString "doctype") = true := by decide +kernel
  have h2 : PyData.strOk ⟨#[97]⟩ = true := by decide +kernel
  simp [SeqAt.shaped, PyData.canLay0, PyData.canLayAll0, PyData.depth, PyData.depthAll, h1, h2, hS, hx]
theorem shp_P {S x : Str} {e : Int} (hS : PyData.strOk S = true) (hx : PyData.strOk x = true) :
    SeqAt.shaped (PyData.tuple [PyData.tuple [PyData.str (Str.ofString "doctype"), PyData.str ⟨#[97]⟩, PyData.str (Str.ofString "p"), PyData.str S, PyData.str x], PyData.int e]) = true := by
  have h1 : PyData.strOk (Str.ofString "doctype") = true := by decide +kernel
  have h2 : PyData.strOk ⟨#[97]⟩ = true := by decide +kernel
  have h3 : PyData.strOk (Str.ofString "p") = true := by decide +kernel
  simp [SeqAt.shaped, PyData.canLay0, PyData.canLayAll0, PyData.depth, PyData.depthAll, h1, h2, h3, hS, hx]
section
local macro_rules | `(tactic| walk_at "compareOp Eq ref ref") => `(tactic| (k_here; k_dflt (refine eq_dataH (by ke_read) (by ke_read) (shp_S (by assumption) (Lw.okD (by assumption) (by decide +kernel) (by assumption) (by assumption))) (shp_S (by assumption) (Lw.okD (by assumption) (by decide +kernel) (by assumption) (by assumption))) (by ke_room) ?_); (try simp only [PyData.eqv, PyData.eqvAll, beq_self_eq_true, Bool.and_true])))
set_option maxHeartbeats 1500000 in
theorem right_S (w mean mg mb) (S I Z : Str) (tS tI tZ : CTok) (led : List (Addr × Obj)) (hS : SgOk S) (hI : Pr I) (hZ : Pr Z) (hIl : I.length ≤ 60) (hZl : Z.length ≤ 40) :
    CallsToS w mean mg mb 24 1019 led [.none, .str S tS, .str I tI, .str Z tZ] fun R => R (.bool true) led := by
  have hS4 : S.length ≤ 4 := hS.1
  have h2q : (Str.ofString "\"[").length = 2 := by rw [two_q]; rfl
  have hSs := hS.str
  unfold CallsToS
  intros
  rename_i hret
  refine wpAny_call ?_
  k_dflt (refine' defS_any ?k1 ?k2 ?k3 ?k4 ?k5 ?XB ?TB ?D ?T0 ?kA ?kF ?kK ?k6 ?k7 ?k8 ?k9 ?kB ?_ ?c2 ?c3 ?c4 ?c5; (case kA => exact rfl); (case kF => exact rfl); (case kK => first | exact rfl | assumption); (case k2 => k_asm); (case k1 => k_asm); (case XB => assumption); (case TB => assumption); (case D => assumption); (case T0 => assumption); (case k3 => k_asm); (case k4 => k_asm); (case k5 => k_asm); (case k6 => k_is); (case k7 => k_is); (case k8 => ktr_room); (case k9 => first | exact BindsTo.of_eq rfl | exact binds_K (by k_in) rfl (by k_is) rfl rfl rfl); (case kB => exact locs rfl); (case c2 => exact rfl); (case c3 => exact rfl); (case c4 => exact rfl); (case c5 => decide); k_whole; intro g' L' h' FG' F' N' B' X' T' D'; (try dsimp only); (try k_fold))
  (k_steps; (try repeat' ((with_reducible refine Stop.by ?_); (first | ((with_reducible show wpAny _ _ (call (Value.ref 1005) _) _ _ _); k_dflt (refine' CallsTo.use ?spec ?k1 ?k2 ?k3 ?k4 ?k5 ?kK ?kd ?ku ?_; (case k2 => k_asm); (case k1 => k_asm); (case k3 => k_asm); (case k4 => k_asm); (case k5 => k_asm); (case kK => first | exact rfl | assumption); (case spec => exact due_det _ _ _ _ _ _ _ _ _ _ _ _ _ _ _ (by assumption) (by decide +kernel) (by decide) (by assumption) (by assumption) (by assumption) (by assumption) (by assumption) _); (case kd => ktr_room); (case ku => ktr_units); (try dsimp only [RetO]); (with_reducible (repeat' (first | (refine And.intro ?_ ?_) | intro))); (all_goals (try dsimp only)); (all_goals (try (rename (∀ p : Addr × Obj, _ ∈ _ → @LT.lt Nat _ _ _) => l1; k_lt l1))); (all_goals (try (rename (∀ p : Addr × Obj, _ ∈ _ → @LT.lt Nat _ _ _) => l1; k_lt l1))))) | ((with_reducible show wpAny _ _ (call (Value.ref 1012) _) _ _ _); k_dflt (refine' CallsToS.use ?spec ?k2 ?k1 ?k3 ?k4 ?k5 ?XB ?TB ?D ?T0 ?kK ?kd ?ku ?_; (case k2 => k_asm); (case k1 => k_asm); (case XB => assumption); (case TB => assumption); (case D => assumption); (case T0 => first | assumption | exact KtsTurn.refl); (case k3 => k_asm); (case k4 => k_asm); (case k5 => k_asm); (case kK => first | exact rfl | assumption); (case spec => exact told_spec _ _ _ _ _ _ _ _ _ _ (doc_S _ _ _ _ (by assumption) (by assumption) (by assumption) (by assumption) (by assumption))); (case kd => ktr_room); (case ku => ktr_units); (with_reducible (repeat' (first | (refine And.intro ?_ ?_) | intro))); (all_goals (try dsimp only)); (all_goals (try (rename (∀ p : Addr × Obj, _ ∈ _ → @LT.lt Nat _ _ _) => l1; k_lt l1))); (all_goals (try (rename (∀ p : Addr × Obj, _ ∈ _ → @LT.lt Nat _ _ _) => l1; k_lt l1)))))); k_steps)))
  all_goals (rename News _ _ _ _ => nn)
  all_goals exact hret _ _ _ (by assumption) (by assumption) (fun p hp => nn p (by repeat (first | exact hp | refine List.Mem.tail _ ?_))) (by assumption) (by assumption) (by assumption) (by assumption)
end
end Mine
end -- Lf
section -- Lg
namespace Mine
local macro_rules | `(tactic| walk_at "zzz") => `(tactic| fail "no")
section
local macro_rules | `(tactic| walk_at "compareOp Eq ref ref") => `(tactic| (k_here; k_dflt (refine eq_dataH (by ke_read) (by ke_read) (shp_P (by assumption) (Lw.okD (by assumption) (by decide +kernel) (by assumption) (by assumption))) (shp_P (by assumption) (Lw.okD (by assumption) (by decide +kernel) (by assumption) (by assumption))) (by ke_room) ?_); (try simp only [PyData.eqv, PyData.eqvAll, beq_self_eq_true, Bool.and_true])))
set_option maxHeartbeats 1500000 in
theorem right_P (w mean mg mb) (S I Z : Str) (tp tS tI tZ : CTok) (led : List (Addr × Obj)) (hS : SgOk S) (hI : Pr I) (hZ : Pr Z) (hIl : I.length ≤ 60) (hZl : Z.length ≤ 40) :
    CallsToS w mean mg mb 24 1019 led [.str (Str.ofString "p") tp, .str S tS, .str I tI, .str Z tZ] fun R => R (.bool true) led := by
  have hS4 : S.length ≤ 4 := hS.1
  have h2q : (Str.ofString "\"[").length = 2 := by rw [two_q]; rfl
  have hSs := hS.str
  unfold CallsToS
  intros
  rename_i hret
  refine wpAny_call ?_
  k_dflt (refine' defS_any ?k1 ?k2 ?k3 ?k4 ?k5 ?XB ?TB ?D ?T0 ?kA ?kF ?kK ?k6 ?k7 ?k8 ?k9 ?kB ?_ ?c2 ?c3 ?c4 ?c5; (case kA => exact rfl); (case kF => exact rfl); (case kK => first | exact rfl | assumption); (case k2 => k_asm); (case k1 => k_asm); (case XB => assumption); (case TB => assumption); (case D => assumption); (case T0 => assumption); (case k3 => k_asm); (case k4 => k_asm); (case k5 => k_asm); (case k6 => k_is); (case k7 => k_is); (case k8 => ktr_room); (case k9 => first | exact BindsTo.of_eq rfl | exact binds_K (by k_in) rfl (by k_is) rfl rfl rfl); (case kB => exact locs rfl); (case c2 => exact rfl); (case c3 => exact rfl); (case c4 => exact rfl); (case c5 => decide); k_whole; intro g' L' h' FG' F' N' B' X' T' D'; (try dsimp only); (try k_fold))
  (k_steps; (try repeat' ((with_reducible refine Stop.by ?_); (first | ((with_reducible show wpAny _ _ (call (Value.ref 1012) _) _ _ _); k_dflt (refine' CallsToS.use ?spec ?k2 ?k1 ?k3 ?k4 ?k5 ?XB ?TB ?D ?T0 ?kK ?kd ?ku ?_; (case k2 => k_asm); (case k1 => k_asm); (case XB => assumption); (case TB => assumption); (case D => assumption); (case T0 => first | assumption | exact KtsTurn.refl); (case k3 => k_asm); (case k4 => k_asm); (case k5 => k_asm); (case kK => first | exact rfl | assumption); (case spec => exact told_spec _ _ _ _ _ _ _ _ _ _ (doc_P' _ _ _ _ (by decide +kernel) (by assumption) (by assumption) (by assumption) (by assumption) (by assumption))); (case kd => ktr_room); (case ku => ktr_units); (with_reducible (repeat' (first | (refine And.intro ?_ ?_) | intro))); (all_goals (try dsimp only)); (all_goals (try (rename (∀ p : Addr × Obj, _ ∈ _ → @LT.lt Nat _ _ _) => l1; k_lt l1))); (all_goals (try (rename (∀ p : Addr × Obj, _ ∈ _ → @LT.lt Nat _ _ _) => l1; k_lt l1))))) | ((with_reducible show wpAny _ _ (call (Value.ref 1005) _) _ _ _); k_dflt (refine' CallsTo.use ?spec ?k1 ?k2 ?k3 ?k4 ?k5 ?kK ?kd ?ku ?_; (case k2 => k_asm); (case k1 => k_asm); (case k3 => k_asm); (case k4 => k_asm); (case k5 => k_asm); (case kK => first | exact rfl | assumption); (case spec => exact due_det _ _ _ _ _ _ _ _ _ _ _ _ _ _ _ (by assumption) (by decide +kernel) (by decide) (by assumption) (by assumption) (by assumption) (by assumption) (by assumption) _); (case kd => ktr_room); (case ku => ktr_units); (try dsimp only [RetO]); (with_reducible (repeat' (first | (refine And.intro ?_ ?_) | intro))); (all_goals (try dsimp only)); (all_goals (try (rename (∀ p : Addr × Obj, _ ∈ _ → @LT.lt Nat _ _ _) => l1; k_lt l1))); (all_goals (try (rename (∀ p : Addr × Obj, _ ∈ _ → @LT.lt Nat _ _ _) => l1; k_lt l1)))))); k_steps)))
  all_goals (rename News _ _ _ _ => nn)
  all_goals exact hret _ _ _ (by assumption) (by assumption) (fun p hp => nn p (by repeat (first | exact hp | refine List.Mem.tail _ ?_))) (by assumption) (by assumption) (by assumption) (by assumption)
end
end Mine
end -- Lg
section -- Lh
namespace Mine
/-- the source of draws: a list of two ints -/
noncomputable abbrev srcO (x : Int) (tx : CTok) (y : Int) (ty : CTok) : Obj := listOf #[.int x tx, .int y ty] 0
noncomputable abbrev DPost := (Value → Prop) → Prop
/-- a call that draws from the source a -/
noncomputable def DM (w : World) (mean : ExcName → Option Value) (mg mb : Str → Option Value) (kk : Nat) (f : Addr) (args : List Value) (Post : DPost) : Prop :=
  ∀ (a : Addr) (x : Int) (tx : CTok) (y : Int) (ty : CTok) (led : List (Addr × Obj)) (g : Obj → List (Addr × Obj)), UpdF a (srcO x tx y ty) led g →
    CallsTo w mean mg mb kk f led (.ref a :: args) fun base h₀ fr L m s Q E => Post fun v => ∀ x' tx' y' ty', RetTo h₀ L m s Q v (g (srcO x' tx' y' ty'))
noncomputable def DM0 (w : World) (mean : ExcName → Option Value) (mg mb : Str → Option Value) (kk : Nat) (f : Addr) (args : List Value) (Post : DPost) : Prop :=
  ∀ (a : Addr) (x : Int) (tx : CTok) (y : Int) (ty : CTok) (rest : List (Addr × Obj)), OwnOff rest [a] →
    CallsTo w mean mg mb kk f ((a, srcO x tx y ty) :: rest) (.ref a :: args) fun base h₀ fr L m s Q E => Post fun v => ∀ x' tx' y' ty', RetTo h₀ L m s Q v ((a, srcO x' tx' y' ty') :: rest)
theorem DM.of {w : World} {mean : ExcName → Option Value} {mg mb : Str → Option Value} {kk : Nat} {f : Addr} {args : List Value} {Post : DPost} (h : DM0 w mean mg mb kk f args Post) (hm : ∀ R R', (∀ v, R v → R' v) → Post R → Post R') : DM w mean mg mb kk f args Post := by
  intro a x tx y ty led g hU dp un gd cn cs a' ccd cl outer A₀ base h₀ L m s Q E B F X N Tp hk hd hu hp
  obtain ⟨pre, post, rfl, e, h1, h2⟩ := hU.split
  have hne : ∀ p ∈ pre ++ post, p.1 ≠ a := fun p hp => (List.mem_append.mp hp).elim (h1 p) (h2 p)
  refine h a x tx y ty (pre ++ post) (fun p hp b hb => by rw [List.mem_singleton.mp hb]; exact hne p hp) dp un gd cn cs a' ccd cl outer A₀ base h₀ L m s Q E B F X (fun p hp => ?_) Tp hk hd hu (hm _ _ (fun v r x' tx' y' ty' h' tk' F' N' => ?_) hp)
  · exact N p (sub_cons (List.mem_append_right _ (.head _)) mem_mid p hp)
  · refine r x' tx' y' ty' h' tk' F' fun p hp => N' p ?_
    rw [e] at hp
    rcases List.mem_append.mp hp with q | q
    · exact .tail _ (List.mem_append_left _ q)
    · rcases List.mem_cons.mp q with rfl | q
      · exact .head _
      · exact .tail _ (List.mem_append_right _ q)
theorem DM.use {w : World} {mean : ExcName → Option Value} {mg mb : Str → Option Value} {kk : Nat} {f : Addr} {args : List Value} {Post : DPost} (h : DM w mean mg mb kk f args Post) {a : Addr} {x : Int} {tx : CTok} {y : Int} {ty : CTok} {led : List (Addr × Obj)} {g : Obj → List (Addr × Obj)} (hU : UpdF a (srcO x tx y ty) led g) :
    CallsTo w mean mg mb kk f led (.ref a :: args) fun base h₀ fr L m s Q E => Post fun v => ∀ x' tx' y' ty', RetTo h₀ L m s Q v (g (srcO x' tx' y' ty')) := h _ _ _ _ _ _ _ hU
theorem ret_fmod {top : Nat} (ht : 0 < top) {e : Int} {t : Tok} {s : Shared} {Q : Value → Shared → Prop} (h : ∀ k : Nat, k < top → Q (.int (k : Nat) t) s) : Q (.int (e.fmod (top : Int)) t) s := by
  have h1 := Int.fmod_nonneg_of_pos e (b := (top : Int)) (by (first | lia | omega))
  have h2 := Int.fmod_lt_of_pos e (b := (top : Int)) (by (first | lia | omega))
  obtain ⟨k, hk⟩ := Int.eq_ofNat_of_zero_le h1
  rw [hk]
  exact h k (by (first | lia | omega))
theorem bits_fmod (e : Int) : Builtin.Int.intBits (e.fmod 2147483647) ≤ 64 := by
  have h1 := Int.fmod_nonneg_of_pos e (b := 2147483647) (by (first | lia | omega))
  have h2 := Int.fmod_lt_of_pos e (b := 2147483647) (by (first | lia | omega))
  generalize e.fmod 2147483647 = x at *
  unfold Builtin.Int.intBits
  split
  · (first | lia | omega)
  · rename_i h
    have h3 : x.natAbs ≠ 0 := by
      intro z
      have : x = 0 := by (first | lia | omega)
      rw [this] at h
      exact h rfl
    have := (Nat.log2_lt h3 (k := 63)).mpr (by (first | lia | omega))
    (first | lia | omega)
local macro_rules | `(tactic| walk_at "binaryOp Mult int int") => `(tactic| (k_here; k_dflt (refine mul_int ?_ (IntMulOk.of_left (bits_fmod _)))))
set_option maxHeartbeats 2000000 in
theorem take_draw (w mean mg mb) (top : Nat) (tt : CTok) (ht : 0 < top) (ht2 : top ≤ 1000) : DM w mean mg mb 8 979 [.int (top : Nat) tt] fun R => ∀ k : Nat, k < top → ∀ t, R (.int (k : Nat) t) := by
  refine DM.of ?_ (fun R R' h p k hk t => h _ (p k hk t))
  unfold DM0 CallsTo
  intros
  rename_i hret
  refine wpAny_call ?_
  k_dflt (refine' code_def ?k1 ?k2 ?k3 ?k4 ?k5 ?kA ?kF ?kK ?k6 ?k7 ?k8 ?k9 ?kB ?_ ?c2 ?c3 ?c4 ?c5; (case kA | kF => exact rfl); (case kK => first | exact rfl | assumption); (case k1 | k2 | k3 | k4 | k5 => k_asm); (case k6 | k7 => k_is); (case k8 => first | exact room_0 (by assumption) | ktr_room); (case k9 => first | exact BindsTo.of_eq rfl | exact binds_K (by k_in) rfl (by k_is) rfl rfl rfl); (case c5 => decide); (case kB => exact locs rfl); (case c2 | c3 | c4 => exact rfl); k_whole; intro g' L' h' FG' F' N' B' X' T'; (try dsimp only); (try k_fold))
  k_steps
  all_goals exact ret_fmod ht (fun k hk => hret k hk _ _ _ _ _ _ _ (by assumption) (by assumption))
theorem list_item {prog : Program} {w : World} {A : Around} {E : Value → Shared → Prop} {s : Shared} {h₀ : Heap} {L : Addr} {led : List (Addr × Obj)} {value slice : PySem.Expr} {b : Addr} {items : Array Value} {n : Nat} {k : Nat} {u : Tok} {Q : Value → Shared → Prop}
    (N : News h₀ L s.heap led) (hb : (b, listOf items n) ∈ led) (hk : k < items.size) (hs9 : items.size ≤ 1000) (h : ∀ v, items[k]? = some v → Q v s)
    (hs : subscripted slice false (.ref b) (.int (k : Nat) u) = operate [.ref b, .int (k : Nat) u] (getItem (.ref b) (.int (k : Nat) u))) :
    wpAny (model prog w) A (subscriptTail value slice (.ref b) (.int (k : Nat) u)) Q E s := by
  have hl : s.heap.IsList b items := ⟨_, (N _ hb).1, rfl, _, rfl⟩
  exact tail_any hl.typeIs slot_list_getitem.lookup (wpAny_getItem_list hl (by (first | lia | omega)) (by (first | lia | omega)) (by simpa using (Array.getElem?_eq_getElem hk)) (h _ (Array.getElem?_eq_getElem hk))) hs
local macro_rules | `(tactic| walk_at "subscriptTail Name Call ref int") => `(tactic| (k_here; refine Stop.at ?_))
set_option maxHeartbeats 2000000 in
theorem one_draw0 (w mean mg mb) (b : Addr) (items : Array Value) (n : Nat) (hn : 0 < items.size) (hn2 : items.size ≤ 1000) (rest : List (Addr × Obj)) (a : Addr) (x : Int) (tx : CTok) (y : Int) (ty : CTok) (hr : OwnOff ((b, listOf items n) :: rest) [a]) :
    CallsTo w mean mg mb 10 986 ((a, srcO x tx y ty) :: (b, listOf items n) :: rest) [.ref a, .ref b] fun base h₀ fr L m s Q E => ∀ (i : Nat) (v : Value), items[i]? = some v → ∀ x' tx' y' ty', RetTo h₀ L m s Q v ((a, srcO x' tx' y' ty') :: (b, listOf items n) :: rest) := by
  unfold CallsTo
  intros
  rename_i hret
  refine wpAny_call ?_
  k_dflt (refine' code_def ?k1 ?k2 ?k3 ?k4 ?k5 ?kA ?kF ?kK ?k6 ?k7 ?k8 ?k9 ?kB ?_ ?c2 ?c3 ?c4 ?c5; (case kA | kF => exact rfl); (case kK => first | exact rfl | assumption); (case k1 | k2 | k3 | k4 | k5 => k_asm); (case k6 | k7 => k_is); (case k8 => first | exact room_0 (by assumption) | ktr_room); (case k9 => first | exact BindsTo.of_eq rfl | exact binds_K (by k_in) rfl (by k_is) rfl rfl rfl); (case c5 => decide); (case kB => exact locs rfl); (case c2 | c3 | c4 => exact rfl); k_whole; intro g' L' h' FG' F' N' B' X' T'; (try dsimp only); (try k_fold))
  (k_steps; (try repeat' ((with_reducible refine Stop.by ?_); (first | ((with_reducible show wpAny _ _ (subscriptTail _ _ (Value.ref _) (Value.int _ _)) _ _ _); k_dflt (refine list_item ?N ?m ?k ?z ?_ ?hs; (case N => k_asm); (case m => k_mem); (case k => assumption); (case z => assumption); (case hs => with_unfolding_all rfl); intro v9 hv9)) | ((with_reducible show wpAny _ _ (call (Value.ref 979) _) _ _ _); k_dflt (refine' CallsTo.use (DM.use ?zs ?zU) ?z1 ?z2 ?z3 ?z4 ?z5 ?zK ?zd ?zu ?_; (case z1 | z2 | z3 | z4 | z5 => k_asm); (case zK => first | exact rfl | assumption); (case zU => k_updF); (case zs => exact (take_draw _ _ _ _ _ _ (by walk_at "zz side") (by walk_at "zz side"))); (case zd => first | exact room_d (by assumption) (by exact rfl) | exact room_e (by assumption) (by exact rfl) | ktr_room); (case zu => first | exact room_u (by assumption) (by exact rfl) | exact room_v (by assumption) (by exact rfl) | exact room_x (by assumption) (by exact rfl) | exact room_w (by assumption) (by exact rfl) | exact room_y (by assumption) (by exact rfl) | ktr_units); (try dsimp only [RetV, len_0, len_1, len_2, len_3, len_4, len_5, len_6, len_7, len_8, len_9, len_10, len_11, len_12, len_13, len_14, len_15, len_16, len_17, len_18]); (with_reducible (repeat' (first | (refine And.intro ?_ ?_) | intro))); (all_goals (try dsimp only)); (all_goals (try (rename (∀ p : Addr × Obj, _ ∈ _ → @LT.lt Nat _ _ _) => zl1; k_lt zl1))); (all_goals (try contradiction)))) | ((with_reducible show wpAny _ _ (call (Value.ref 150) _) _ _ _); k_dflt (refine' CallsTo.use (sf_call _ _ _ _ _ _ _ _ _) ?z1 ?z2 ?z3 ?z4 ?z5 ?zK ?zd ?zu ?_; (case z1 | z2 | z3 | z4 | z5 => k_asm); (case zK => first | exact rfl | assumption); (case zd => first | exact room_d (by assumption) (by exact rfl) | exact room_e (by assumption) (by exact rfl) | ktr_room); (case zu => first | exact room_u (by assumption) (by exact rfl) | exact room_v (by assumption) (by exact rfl) | exact room_x (by assumption) (by exact rfl) | exact room_w (by assumption) (by exact rfl) | exact room_y (by assumption) (by exact rfl) | ktr_units); intro e' t' oe' h' tk' hX' hg' hc' hd' hM'; (try dsimp only))) | ((with_reducible show wpAny _ _ (exec (Stmt.Raise _ _ _) _) _ _ _); k_dflt (refine' raise150 ?h ?_; (case h => exact rfl); (try k_fold))) | ((with_reducible show Exists _); (rename MadeF _ _ _ _ _ _ _ _ _ => hM9); refine ⟨_, _, _, rfl, by assumption, by assumption, by assumption, by assumption, ?_⟩) | ((with_reducible show wpAny _ _ (leaving _ (Value.ref _)) _ _ _); (k_dflt first | (refine' leave_newF (hk := by rfl) ?k1 ?k2 ?_; (case k2 => assumption); (case k1 => assumption); k_whole; intro h' R' U'; (try dsimp only at R' U' ⊢)) | (refine' leave_onF ?k1 ?k2 ?k3 ?k4 ?_; (case k3 => assumption); (case k1 => assumption); (case k2 => assumption); (case k4 => assumption); k_whole; intro h' R' U'; (try dsimp only at R' U' ⊢)))) | ((with_reducible show wpAny _ _ (subscriptTail _ _ (Value.str _ _) (Value.int _ _)) _ _ _); (k_dflt (refine' item_at ?hs ?h2 ?_ (by with_unfolding_all rfl) (by intro _; with_unfolding_all rfl); (case hs => omega); (case h2 => omega); (try dsimp only))))); k_steps)))
  refine list_item (by k_asm) (by k_mem) (by assumption) (by assumption) ?_ ?_
  · intro v9 hv9
    k_steps
    exact hret _ _ hv9 _ _ _ _ _ _ (by assumption) (by assumption)
  · with_unfolding_all rfl
theorem one_draw (w mean mg mb) (b : Addr) (items : Array Value) (n : Nat) (hn : 0 < items.size) (hn2 : items.size ≤ 1000) (a : Addr) (x : Int) (tx : CTok) (y : Int) (ty : CTok) (led : List (Addr × Obj)) (g : Obj → List (Addr × Obj)) (hU : UpdF a (srcO x tx y ty) led g) (hb : (b, listOf items n) ∈ led) (hne : @Ne Nat b a) :
    CallsTo w mean mg mb 10 986 led [.ref a, .ref b] fun base h₀ fr L m s Q E => ∀ (i : Nat) (v : Value), items[i]? = some v → ∀ x' tx' y' ty', RetTo h₀ L m s Q v (g (srcO x' tx' y' ty')) := by
  intro dp un gd cn cs a' ccd cl outer A₀ base h₀ L m s Q E B F X N Tp hk hd hu hp
  obtain ⟨pre, post, rfl, e, h1, h2⟩ := hU.split
  have hoff : ∀ p ∈ pre ++ post, p.1 ≠ a := fun p hp => (List.mem_append.mp hp).elim (h1 p) (h2 p)
  have hb' : (b, listOf items n) ∈ pre ++ post := by
    rcases List.mem_append.mp hb with q | q
    · exact List.mem_append_left _ q
    · rcases List.mem_cons.mp q with q | q
      · exact absurd (congrArg Prod.fst q) hne
      · exact List.mem_append_right _ q
  refine one_draw0 w mean mg mb b items n hn hn2 (pre ++ post) a x tx y ty (fun p hp c hc => ?_) dp un gd cn cs a' ccd cl outer A₀ base h₀ L m s Q E B F X (fun p hp => ?_) Tp hk hd hu (fun i v hv x' tx' y' ty' h' tk' F' N' => hp i v hv x' tx' y' ty' h' tk' F' fun p hp => N' p ?_)
  · rw [List.mem_singleton.mp hc]
    rcases List.mem_cons.mp hp with rfl | hp
    · exact hne
    · exact hoff p hp
  · exact N p (sub_cons (List.mem_append_right _ (.head _)) (sub_cons hb mem_mid) p hp)
  · rw [e] at hp
    rcases List.mem_append.mp hp with q | q
    · exact .tail _ (.tail _ (List.mem_append_left _ q))
    · rcases List.mem_cons.mp q with rfl | q
      · exact .head _
      · exact .tail _ (.tail _ (List.mem_append_right _ q))
end Mine
end -- Lh
section -- Lm
namespace Mine
section
variable {prog : Program} {w : World} {A : Around} {E : Value → Shared → Prop} {s : Shared} {h₀ : Heap} {L : Addr} {m : Str → Option Value}
theorem list_fr {h : Heap} {sc : Addr} {items : Array Value} (F : Fr h₀ L h m) (hl : h₀.IsList sc items) : h.IsList sc items := by
  obtain ⟨o, e, r⟩ := hl
  exact ⟨o, F.keep _ _ e, r⟩
theorem len_fr {sc : Addr} {items : Array Value} {Q : Value → Shared → Prop} (F : Fr h₀ L s.heap m) (hl : h₀.IsList sc items) (hn : items.size ≤ 1000)
    (h : ∀ t k, Q (.int (items.size : Nat) t) { s with toks := k }) : wpAny (model prog w) A (call (.builtin "len") [.ref sc]) Q E s :=
  call_len_list (list_fr F hl) (by (first | lia | omega)) (h _ _)
end
local macro_rules | `(tactic| walk_at "call builtin:len") => `(tactic| (k_here; k_dflt (refine len_fr ?F ?l ?n ?_; (case F => k_asm); (case l => assumption); (case n => assumption); intro t9 k9)))
set_option maxHeartbeats 1000000 in
theorem pool_spec (w mean mg mb) (sc : Addr) (tk : CTok) (vs : List Value) (ns : List Int) (hI : IntsAre vs ns) (hns : vs.toArray.size ≤ 1000) (hb : (PyData.list (ns.map PyData.int)).layable0 = true) (led : List (Addr × Obj)) :
    CallsTo w mean mg mb 8 972 led [.ref sc, .int 0 tk] fun base h₀ fr L m s Q E => h₀.IsList sc vs.toArray ∧ ∀ (a : Addr) x tx y ty, (∀ q ∈ led, @LT.lt Nat _ q.1 a) → RetTo h₀ L m s Q (.ref a) ((a, srcO x tx y ty) :: led) := by
  unfold CallsTo
  intro dp un gd cn cs a ccd cl outer A₀ base h₀ L m s Q E B F X N T hk hd hu hret
  obtain ⟨hl0, hret⟩ := hret
  refine wpAny_call ?_
  k_dflt (refine' code_def ?k1 ?k2 ?k3 ?k4 ?k5 ?kA ?kF ?kK ?k6 ?k7 ?k8 ?k9 ?kB ?_ ?c2 ?c3 ?c4 ?c5; (case kA => exact rfl); (case kF => exact rfl); (case kK => first | exact rfl | assumption); (case k1 => k_asm); (case k2 => k_asm); (case k3 => k_asm); (case k4 => k_asm); (case k5 => k_asm); (case k6 => k_is); (case k7 => k_is); (case k8 => ktr_room); (case k9 => first | exact BindsTo.of_eq rfl | exact binds_K (by k_in) rfl (by k_is) rfl rfl rfl); (case c5 => decide); (case kB => exact locs rfl); (case c2 => exact rfl); (case c3 => exact rfl); (case c4 => exact rfl); k_whole)
  intro g9 L9 h9 FG9 F9 N9 B9 X9 T9
  have hl9 := list_fr FG9 hl0
  (try dsimp only); (try k_fold)
  k_steps
  all_goals (rename News _ _ _ _ => nn)
  all_goals (rename ∀ p : Addr × Obj, _ ∈ _ → @LT.lt Nat _ _ _ => l9)
  all_goals exact hret _ _ _ _ _ l9 _ _ (by assumption) nn
end Mine
end -- Lm
section -- Li
namespace Mine
noncomputable abbrev T1 : Str := Str.ofString "<!DOCTYPE a [<?>]?>]><a/>"
theorem T1_len : T1.length = 25 := by decide +kernel
theorem doc_1 (w mean mg mb) : CM w mean mg mb 10 300 T1 0 [] (DoP (fun o => o = .doc (Str.ofString "<?>]?>") 21) (fun _ => .none) (fun _ => .none)) := by
  have hl := T1_len
  have hb : Br T1 13 13 true 19 := by
    refine .ins (j := 17) (by decide +kernel) (by decide +kernel) ⟨by (first | lia | omega), by decide +kernel, ?_⟩ (.close (by (first | lia | omega)) (by decide +kernel))
    have h : ∀ i, i < 17 → 15 ≤ i → ¬ Hit T1 (Str.ofString "?>") i := by decide +kernel
    exact fun i h1 h2 => h i h2 h1
  have hg : Good T1 12 := by
    have h : ∀ i, i < 25 → 12 < i → isCh (ch T1 i) = true := by decide +kernel
    exact fun i h1 h2 => h i (by (first | lia | omega)) h1
  have hO : CM w mean mg mb 9 286 T1 12 [] (OutP T1 (fun _ _ => False) (fun v1 v2 n => v1 = .none ∧ v2 = .none ∧ n = 12)) :=
    CM.imp (outer_none w mean mg mb T1 12 (by (first | lia | omega)) (by (first | lia | omega)) (by decide +kernel) (by decide +kernel)) fun R X hp =>
      hp.2 _ _ _ ⟨rfl, rfl, rfl⟩ (by (first | lia | omega)) (sps0 (by (first | lia | omega)) (by decide +kernel)) (by decide +kernel) hg
  refine CM.imp (read_doctype_spec w mean mg mb T1 _ _ (by (first | lia | omega)) (by (first | lia | omega)) (by decide +kernel) (sps1 (by (first | lia | omega)) (by decide +kernel) (by decide +kernel)) (by decide +kernel) (by decide +kernel) (sps1 (by (first | lia | omega)) (by decide +kernel) (by decide +kernel)) hO) fun R X hp => ⟨fun p k' f => f.elim, ?_⟩
  rintro v1 v2 n ⟨rfl, rfl, rfl⟩ ok p hr
  obtain ⟨rfl, rfl⟩ := hr.det hb
  refine ⟨fun _ q hs => ?_, fun z => nomatch z⟩
  have hs0 : Sps T1 20 20 := sps0 (by (first | lia | omega)) (by decide +kernel)
  have e := hs.only hs0
  subst e
  refine ⟨fun _ t0 t1 t2 => ?_, fun hh => absurd (by decide +kernel) hh⟩
  have hx : sub T1 13 19 = Str.ofString "<?>]?>" := by decide +kernel
  show R (.tup [_, _, _, _, .str (sub T1 13 19) t2]) 21
  rw [hx]
  exact (hp _ rfl).2 _ _ rfl t0 t1 0 0 t2
theorem CallsToS.imp {w : World} {mean : ExcName → Option Value} {mg mb : Str → Option Value} {kk : Nat} {f : Addr} {led : List (Addr × Obj)} {vs : List Value} {Post Post' : (Value → List (Addr × Obj) → Prop) → Prop} (h : CallsToS w mean mg mb kk f led vs Post) (hp : ∀ R, Post' R → Post R) : CallsToS w mean mg mb kk f led vs Post' :=
  fun dp un gd cn cs a ccd cl outer A₀ base g₀ h₀ L m s Q E B F X N T XB TB D T0 hk hd hu post => h dp un gd cn cs a ccd cl outer A₀ base g₀ h₀ L m s Q E B F X N T XB TB D T0 hk hd hu (hp _ post)
theorem told_1 (w mean mg mb) (tT : CTok) (led : List (Addr × Obj)) :
    CallsToS w mean mg mb 12 1012 led [.str T1 tT] fun R => ∀ (t0 t1 t4 t5 : CTok) (ev b : Addr), (∀ q ∈ led, @LT.lt Nat _ q.1 ev) → (∀ q ∈ led, @LT.lt Nat _ q.1 b) → @LT.lt Nat _ ev b →
        R (.ref b) ((b, tupO [.ref ev, .int 21 t5]) :: (ev, tupO [.str (Str.ofString "doctype") t0, .str (Str.ofString "a") t1, .none, .none, .str (Str.ofString "<?>]?>") t4]) :: led) :=
  (told_spec w mean mg mb T1 tT _ _ _ led (doc_1 w mean mg mb)).imp fun R h => ⟨fun p e => (by cases e), fun x e q => by
    injection q with q1 q2
    subst q1 q2
    rw [show Str.ofString "a" = ⟨#[97]⟩ by decide +kernel] at h
    exact fun t0 t1 t2 t3 t4 t5 ev b => h t0 t1 t4 t5 ev b⟩
theorem CallsToS.top {w : World} {mean : ExcName → Option Value} {mg mb : Str → Option Value} {kk : Nat} {f : Addr} {led : List (Addr × Obj)} {vs : List Value} {Post : (Value → List (Addr × Obj) → Prop) → Prop}
    {dp un : Nat} {gd : Option (List Code)} {cn : Str} {cs : Scope} {a : Addr} {ccd : Value} {cl : List (Str × Addr)} {A₀ : Around} {base h₀ : Heap} {L : Addr} {m : Str → Option Value} {s : Shared} {Q E : Value → Shared → Prop}
    (h : CallsToS w mean mg mb kk f led vs Post) (F : Fr h₀ L s.heap m) (B : Below A₀ base [] h₀) (X : (Mine.hd.heap_39 w.params).In h₀) (N : News h₀ L s.heap led) (T : Top Mine.hd.view_39 ML mean mg mb h₀)
    (XB : (Mine.hd.heap_39 w.params).In base) (TB : Top Mine.hd.view_39 ML mean mg mb base) (hk : cs.kind = .function)
    (hd : dp + kk < recursionLimit) (hu : un + 8 * kk < cLine) (hm : ∀ R R' : Value → List (Addr × Obj) → Prop, (∀ v l, R v l → R' v l) → Post R → Post R')
    (hp : Post (fun v led' => RetTo h₀ L m s Q v led')) :
    wpAny (model MP w) (ktrTop dp un gd cn cs L a ccd cl []) (call (.ref f) vs) Q E s :=
  h _ _ _ _ _ _ _ _ [] _ _ h₀ _ _ _ _ _ _ B F X N T XB TB ktsDicts_nil KtsTurn.refl hk hd hu (hm _ _ (fun v l r h₀' h' tk' T1 F1 N1 _ _ _ _ => by
    have hk1 : ∀ b o, h₀.get? b = some o → h₀'.get? b = some o := fun b o e => T1.other b o e (by simp)
    refine r h' tk' ⟨F1.ns, fun b o e => F1.keep b o (hk1 b o e), by rw [← T1.size]; exact F1.above⟩ fun p hp => ⟨(N1 p hp).1, (N1 p hp).2.1, ?_⟩
    cases q : h₀.get? p.1 with
    | none => rfl
    | some o =>
      have := (N1 p hp).2.2
      rw [hk1 _ _ q] at this
      cases this) hp)
end Mine
end -- Li
section -- Lj
namespace Mine
noncomputable abbrev T2 : Str := Str.ofString "<?p q?><a>x</a>"
theorem T2_len : T2.length = 15 := by decide +kernel
theorem skip_yes (w mean mg mb) (T : Str) (k : Nat) (hT : T.length ≤ 1000) (hk : k ≤ T.length) (W : Str) (tw : CTok) (hW : W.length ≤ 1000) (hh : Hit T W k) : CM w mean mg mb 1 359 T k [.str W tw] fun R X => R (.val (.bool true)) (k + W.length) :=
  CM.imp (skip_spec w mean mg mb T k hT hk W tw hW) fun R X h => ⟨fun _ => h, fun q => absurd hh q⟩
theorem skip_no (w mean mg mb) (T : Str) (k : Nat) (hT : T.length ≤ 1000) (hk : k ≤ T.length) (W : Str) (tw : CTok) (hW : W.length ≤ 1000) (hh : ¬ Hit T W k) : CM w mean mg mb 1 359 T k [.str W tw] fun R X => R (.val (.bool false)) k :=
  CM.imp (skip_spec w mean mg mb T k hT hk W tw hW) fun R X h => ⟨fun q => absurd q hh, fun _ => h⟩
theorem looks_yes (w mean mg mb) (T : Str) (k : Nat) (hT : T.length ≤ 1000) (hk : k ≤ T.length) (W : Str) (tw : CTok) (hh : Hit T W k) : CM w mean mg mb 1 337 T k [.str W tw] fun R X => R (.val (.bool true)) k :=
  CM.imp (looks_spec w mean mg mb T k hT hk W tw) fun R X h => by rw [decide_eq_true hh]; exact h
theorem looks_no (w mean mg mb) (T : Str) (k : Nat) (hT : T.length ≤ 1000) (hk : k ≤ T.length) (W : Str) (tw : CTok) (hh : ¬ Hit T W k) : CM w mean mg mb 1 337 T k [.str W tw] fun R X => R (.val (.bool false)) k :=
  CM.imp (looks_spec w mean mg mb T k hT hk W tw) fun R X h => by rw [decide_eq_false hh]; exact h
theorem expect_yes (w mean mg mb) (T : Str) (k : Nat) (hT : T.length ≤ 1000) (hk : k ≤ T.length) (W : Str) (tw : CTok) (hW : W.length ≤ 1000) (hh : Hit T W k) : CM w mean mg mb 6 366 T k [.str W tw] fun R X => R (.val .none) (k + W.length) :=
  CM.imp (expect_spec w mean mg mb T k hT hk W tw hW) fun R X h => ⟨fun _ => h, fun q => absurd hh q⟩
theorem over_no (w mean mg mb) (T : Str) (k : Nat) (hT : T.length ≤ 1000) (hh : k < T.length) : CM w mean mg mb 1 322 T k [] fun R X => R (.val (.bool false)) k :=
  CM.imp (is_over_spec w mean mg mb T k hT) fun R X h => by rw [decide_eq_false (by (first | lia | omega))]; exact h
theorem over_yes (w mean mg mb) (T : Str) (k : Nat) (hT : T.length ≤ 1000) (hh : T.length ≤ k) : CM w mean mg mb 1 322 T k [] fun R X => R (.val (.bool true)) k :=
  CM.imp (is_over_spec w mean mg mb T k hT) fun R X h => by rw [decide_eq_true hh]; exact h
theorem check_all (w mean mg mb) (S : Str) (ts : CTok) (p : Nat) (tp : CTok) (hS : S.length ≤ 1000) (hB : ∀ i, i < S.length → isCh (ch S i) = true) : PM w mean mg mb 6 183 [.str S ts, .int p tp] fun R _ => R .none :=
  check_ok w mean mg mb S ts p tp hS hB
theorem name_p2 (w mean mg mb) : CM w mean mg mb 4 401 T2 2 [] fun R X => ∀ t, R (.val (.str (Str.ofString "p") t)) 3 :=
  CM.imp (name_spec w mean mg mb T2 2 (by decide +kernel) (by decide +kernel) (by decide +kernel) (by decide +kernel) (by decide +kernel) (by decide +kernel)) fun R X h t => by
    rw [show (⟨#[ch T2 2]⟩ : Str) = Str.ofString "p" by decide +kernel]; exact h t
theorem name_a8 (w mean mg mb) : CM w mean mg mb 4 401 T2 8 [] fun R X => ∀ t, R (.val (.str (Str.ofString "a") t)) 9 :=
  CM.imp (name_spec w mean mg mb T2 8 (by decide +kernel) (by decide +kernel) (by decide +kernel) (by decide +kernel) (by decide +kernel) (by decide +kernel)) fun R X h t => by
    rw [show (⟨#[ch T2 8]⟩ : Str) = Str.ofString "a" by decide +kernel]; exact h t
theorem name_a13 (w mean mg mb) : CM w mean mg mb 4 401 T2 13 [] fun R X => ∀ t, R (.val (.str (Str.ofString "a") t)) 14 :=
  CM.imp (name_spec w mean mg mb T2 13 (by decide +kernel) (by decide +kernel) (by decide +kernel) (by decide +kernel) (by decide +kernel) (by decide +kernel)) fun R X h t => by
    rw [show (⟨#[ch T2 13]⟩ : Str) = Str.ofString "a" by decide +kernel]; exact h t
theorem until_q (w mean mg mb) (tw : CTok) : CM w mean mg mb 6 373 T2 4 [.str (Str.ofString "?>") tw] fun R X => ∀ t, R (.val (.str (Str.ofString "q") t)) 7 :=
  CM.imp (until_spec w mean mg mb T2 4 (by decide +kernel) (by decide +kernel) (Str.ofString "?>") tw (by decide +kernel)) fun R X h r hr => by
    have h5 : Fst T2 (Str.ofString "?>") 4 (some 5) := ⟨by (first | lia | omega), by decide +kernel, fun i h1 h2 => by rw [show i = 4 by (first | lia | omega)]; decide +kernel⟩
    have e := hr.only h5
    subst e
    refine ⟨fun z => (nomatch z), fun j z t => ?_⟩
    injection z with z
    subst z
    rw [show sub T2 4 5 = Str.ofString "q" by decide +kernel]
    exact h t
end Mine
end -- Lj
section -- Lk
namespace Mine
set_option maxHeartbeats 2000000 in
theorem plain_T2 (w mean mg mb) (tt : CTok) : PM w mean mg mb 4 112 [.str T2 tt] fun R _ => ∀ t, R (.str T2 t) := by
  unfold PM CallsTo
  intros
  rename_i hret
  refine wpAny_call ?_
  k_dflt (refine' code_def ?k1 ?k2 ?k3 ?k4 ?k5 ?kA ?kF ?kK ?k6 ?k7 ?k8 ?k9 ?kB ?_ ?c2 ?c3 ?c4 ?c5; (case kA | kF => exact rfl); (case kK => first | exact rfl | assumption); (case k1 | k2 | k3 | k4 | k5 => k_asm); (case k6 | k7 => k_is); (case k8 => first | exact room_0 (by assumption) | ktr_room); (case k9 => first | exact BindsTo.of_eq rfl | exact binds_K (by k_in) rfl (by k_is) rfl rfl rfl); (case c5 => decide); (case kB => exact locs rfl); (case c2 | c3 | c4 => exact rfl); k_whole; intro g' L' h' FG' F' N' B' X' T'; (try dsimp only); (try k_fold))
  k_steps
  dsimp only at hret
  rename News _ _ _ _ => nn
  exact retB (hret _) (congrArg (fun x => Value.str x _) (by decide +kernel)) (by assumption) (fun p hp => nn p (by repeat (first | exact hp | refine List.Mem.tail _ ?_)))
theorem s34 : Sps T2 3 4 := sps1 (by decide +kernel) (by decide +kernel) (by decide +kernel)
set_option maxHeartbeats 2000000 in
theorem instr_T2 (w mean mg mb) : CM w mean mg mb 9 225 T2 0 [] fun R X => ∀ t0 t1 t2, R (.tup [.str (Str.ofString "instruction") t0, .str (Str.ofString "p") t1, .str (Str.ofString "q") t2]) 7 := by
  have s3 := s34
  refine CM.of ?_ (by intro R R' X X' hR hX h; exact fun t0 t1 t2 => hR _ _ (h t0 t1 t2))
  unfold CM0 CallsTo
  intros
  rename_i hret
  refine wpAny_call ?_
  k_dflt (refine' code_def ?k1 ?k2 ?k3 ?k4 ?k5 ?kA ?kF ?kK ?k6 ?k7 ?k8 ?k9 ?kB ?_ ?c2 ?c3 ?c4 ?c5; (case kA | kF => exact rfl); (case kK => first | exact rfl | assumption); (case k1 | k2 | k3 | k4 | k5 => k_asm); (case k6 | k7 => k_is); (case k8 => first | exact room_0 (by assumption) | ktr_room); (case k9 => first | exact BindsTo.of_eq rfl | exact binds_K (by k_in) rfl (by k_is) rfl rfl rfl); (case c5 => decide); (case kB => exact locs rfl); (case c2 | c3 | c4 => exact rfl); k_whole; intro g' L' h' FG' F' N' B' X' T'; (try dsimp only); (try k_fold))
  (k_steps; (try repeat' ((with_reducible refine Stop.by ?_); (first | ((with_reducible show wpAny _ _ (call (Value.ref 183) _) _ _ _); k_dflt (refine' CallsTo.use ?zs ?z1 ?z2 ?z3 ?z4 ?z5 ?zK ?zd ?zu ?_; (case z1 | z2 | z3 | z4 | z5 => k_asm); (case zK => first | exact rfl | assumption); (case zs => exact (PM.use (check_all _ _ _ _ _ _ _ _ (by walk_at "zz side") (by walk_at "zz side")) _)); (case zd => first | exact room_d (by assumption) (by exact rfl) | exact room_e (by assumption) (by exact rfl) | ktr_room); (case zu => first | exact room_u (by assumption) (by exact rfl) | exact room_v (by assumption) (by exact rfl) | exact room_x (by assumption) (by exact rfl) | exact room_w (by assumption) (by exact rfl) | exact room_y (by assumption) (by exact rfl) | ktr_units); (try dsimp only [RetV, len_0, len_1, len_2, len_3, len_4, len_5, len_6, len_7, len_8, len_9, len_10, len_11, len_12, len_13, len_14, len_15, len_16, len_17, len_18]); (with_reducible (repeat' (first | (refine And.intro ?_ ?_) | intro))); (all_goals (try dsimp only)); (all_goals (try (rename (∀ p : Addr × Obj, _ ∈ _ → @LT.lt Nat _ _ _) => zl1; k_lt zl1))); (all_goals (try contradiction)))) | ((first | (with_reducible show wpAny _ _ (call (Value.ref 373) _) _ _ _) | (with_reducible show wpAny _ _ (call (Value.ref 401) _) _ _ _) | (with_reducible show wpAny _ _ (call (Value.ref 387) _) _ _ _) | (with_reducible show wpAny _ _ (call (Value.ref 394) _) _ _ _) | (with_reducible show wpAny _ _ (call (Value.ref 366) _) _ _ _) | (with_reducible show wpAny _ _ (call (Value.ref 359) _) _ _ _)); k_dflt (refine' CM.useI ?zs ?z1 ?z2 ?z3 ?z4 ?z5 ?zK ?zd ?zu ?zc ?zU ?ze ?_; (case z1 | z2 | z3 | z4 | z5 => k_asm); (case zK => first | exact rfl | assumption); (case zc => k_mem); (case zU => k_updF); (case ze => first | with_reducible exact rfl | with_reducible exact ca1 _ | with_reducible exact caN _ _ | exact ca0); (case zs => first | exact (until_q _ _ _ _ _) | exact (name_a13 _ _ _ _) | exact (name_a8 _ _ _ _) | exact (name_p2 _ _ _ _) | exact (spaces_j _ _ _ _ _ _ _ (by walk_at "zz side") (by walk_at "zz side")) | exact (need_spaces_j _ _ _ _ _ _ _ (by walk_at "zz side") (by walk_at "zz side") (by walk_at "zz side")) | exact (expect_yes _ _ _ _ _ _ (by walk_at "zz side") (by walk_at "zz side") _ _ (by walk_at "zz side") (by walk_at "zz side")) | exact (skip_yes _ _ _ _ _ _ (by walk_at "zz side") (by walk_at "zz side") _ _ (by walk_at "zz side") (by walk_at "zz side")) | exact (skip_no _ _ _ _ _ _ (by walk_at "zz side") (by walk_at "zz side") _ _ (by walk_at "zz side") (by walk_at "zz side"))); (case zd => first | exact room_d (by assumption) (by exact rfl) | exact room_e (by assumption) (by exact rfl) | ktr_room); (case zu => first | exact room_u (by assumption) (by exact rfl) | exact room_v (by assumption) (by exact rfl) | exact room_x (by assumption) (by exact rfl) | exact room_w (by assumption) (by exact rfl) | exact room_y (by assumption) (by exact rfl) | ktr_units); (try dsimp only [RetV, len_0, len_1, len_2, len_3, len_4, len_5, len_6, len_7, len_8, len_9, len_10, len_11, len_12, len_13, len_14, len_15, len_16, len_17, len_18]); (with_reducible (repeat' (first | (refine And.intro ?_ ?_) | intro))); (all_goals (try dsimp only)); (all_goals (try (rename (∀ p : Addr × Obj, _ ∈ _ → @LT.lt Nat _ _ _) => zl1; k_lt zl1))); (all_goals (try contradiction))))); k_steps)))
  dsimp only [RetV] at hret
  rename _ ∧ _ ∧ AllLt _ _ => l9
  exact hret _ _ _ _ _ (fun p hp => kst_ltOf (l := (_, _) :: (_, _) :: _) l9 p hp) _ _ (by assumption) (by assumption)
theorem s14 : Sps T2 14 14 := sps0 (by decide +kernel) (by decide +kernel)
set_option maxHeartbeats 2000000 in
theorem end_T2 (w mean mg mb) : CM w mean mg mb 8 211 T2 11 [] fun R X => ∀ t, R (.val (.str (Str.ofString "a") t)) 15 := by
  have s3 := s14
  refine CM.of ?_ (by intro R R' X X' hR hX h; exact fun t => hR _ _ (h t))
  unfold CM0 CallsTo
  intros
  rename_i hret
  refine wpAny_call ?_
  k_dflt (refine' code_def ?k1 ?k2 ?k3 ?k4 ?k5 ?kA ?kF ?kK ?k6 ?k7 ?k8 ?k9 ?kB ?_ ?c2 ?c3 ?c4 ?c5; (case kA | kF => exact rfl); (case kK => first | exact rfl | assumption); (case k1 | k2 | k3 | k4 | k5 => k_asm); (case k6 | k7 => k_is); (case k8 => first | exact room_0 (by assumption) | ktr_room); (case k9 => first | exact BindsTo.of_eq rfl | exact binds_K (by k_in) rfl (by k_is) rfl rfl rfl); (case c5 => decide); (case kB => exact locs rfl); (case c2 | c3 | c4 => exact rfl); k_whole; intro g' L' h' FG' F' N' B' X' T'; (try dsimp only); (try k_fold))
  (k_steps; (try repeat' ((with_reducible refine Stop.by ?_); ((first | (with_reducible show wpAny _ _ (call (Value.ref 373) _) _ _ _) | (with_reducible show wpAny _ _ (call (Value.ref 401) _) _ _ _) | (with_reducible show wpAny _ _ (call (Value.ref 387) _) _ _ _) | (with_reducible show wpAny _ _ (call (Value.ref 394) _) _ _ _) | (with_reducible show wpAny _ _ (call (Value.ref 366) _) _ _ _)); k_dflt (refine' CM.useI ?zs ?z1 ?z2 ?z3 ?z4 ?z5 ?zK ?zd ?zu ?zc ?zU ?ze ?_; (case z1 | z2 | z3 | z4 | z5 => k_asm); (case zK => first | exact rfl | assumption); (case zc => k_mem); (case zU => k_updF); (case ze => first | with_reducible exact rfl | with_reducible exact ca1 _ | with_reducible exact caN _ _ | exact ca0); (case zs => first | exact (until_q _ _ _ _ _) | exact (name_a13 _ _ _ _) | exact (name_a8 _ _ _ _) | exact (name_p2 _ _ _ _) | exact (spaces_j _ _ _ _ _ _ _ (by walk_at "zz side") (by walk_at "zz side")) | exact (need_spaces_j _ _ _ _ _ _ _ (by walk_at "zz side") (by walk_at "zz side") (by walk_at "zz side")) | exact (expect_yes _ _ _ _ _ _ (by walk_at "zz side") (by walk_at "zz side") _ _ (by walk_at "zz side") (by walk_at "zz side"))); (case zd => first | exact room_d (by assumption) (by exact rfl) | exact room_e (by assumption) (by exact rfl) | ktr_room); (case zu => first | exact room_u (by assumption) (by exact rfl) | exact room_v (by assumption) (by exact rfl) | exact room_x (by assumption) (by exact rfl) | exact room_w (by assumption) (by exact rfl) | exact room_y (by assumption) (by exact rfl) | ktr_units); (try dsimp only [RetV, len_0, len_1, len_2, len_3, len_4, len_5, len_6, len_7, len_8, len_9, len_10, len_11, len_12, len_13, len_14, len_15, len_16, len_17, len_18]); (with_reducible (repeat' (first | (refine And.intro ?_ ?_) | intro))); (all_goals (try dsimp only)); (all_goals (try (rename (∀ p : Addr × Obj, _ ∈ _ → @LT.lt Nat _ _ _) => zl1; k_lt zl1))); (all_goals (try contradiction)))); k_steps)))
  dsimp only [RetV] at hret
  exact hret _ _ _ _ (by assumption) (by assumption)
end Mine
end -- Lk
section -- Ll
namespace Mine
theorem ahead_x (w mean mg mb) (tw : CTok) : CM w mean mg mb 2 380 T2 10 [.str (Str.ofString "<&") tw] fun R X => ∀ t, R (.val (.str (Str.ofString "x") t)) 11 :=
  CM.imp (ahead_gen w mean mg mb T2 _ 10 tw (by decide +kernel) (by decide +kernel) (by decide +kernel)) fun R X h j ⟨h1, _, h3, h4⟩ t => by
    have e : j = 11 := by
      rcases Nat.lt_trichotomy j 11 with q | q | q
      · have : j = 10 := Nat.le_antisymm (Nat.le_of_lt_succ q) h1
        subst this
        obtain ⟨n, hn, e⟩ := h4 (by decide +kernel)
        exact absurd e ((by decide +kernel : ∀ n, n < (Str.ofString "<&").cps.size → (Str.ofString "<&").cps[n]? ≠ some (ch T2 10)) n hn)
      · exact q
      · exact absurd (by decide +kernel : (Str.ofString "<&").cps[0]? = some (ch T2 11)) (h3 11 (by decide) q 0 (by decide +kernel))
    rw [e, show sub T2 10 11 = Str.ofString "x" by decide +kernel]; exact h t
end Mine
end -- Ll
section -- Ln
namespace Mine
section
variable {prog : Program} {w : World} {A : Around} {E : Value → Shared → Prop} {s : Shared} {env : Env} {h₀ : Heap} {x : Str} {body : List Stmt} {Q : Flow → Shared → Prop}
noncomputable abbrev LedPost {σ : Type} (h₀ : Heap) (L : Addr) (Led : σ → List (Addr × Obj)) (adr : List Addr) (own : List (Addr × Obj)) (s₁ : Shared) (Q : Flow → Shared → Prop) : Flow → Shared → Prop :=
  InvPostN h₀ L (fun _ nx => ∃ c, nx = Led c) own adr s₁ Q
theorem led_end {σ : Type} {L : Addr} {Led : σ → List (Addr × Obj)} {adr : List Addr} {own nx : List (Addr × Obj)} {s₁ : Shared} {h' : Heap} {tk : Nat} {m' : Str → Option Value} (c' : σ) (F : Fr h₀ L h' m') (N : News h₀ L h' nx) (hs : ∀ p ∈ Led c' ++ own, p ∈ nx) (ha : (Led c').map (·.1) = adr) :
    LedPost h₀ L Led adr own s₁ Q .next { s₁ with heap := h', toks := tk } := ⟨h', tk, m', nx, Led c', rfl, F, N, fun p hp => hs p (List.mem_append_left _ hp), fun p hp => hs p (List.mem_append_right _ hp), ha, c', rfl⟩
/-- a for over range(n) with a ledger that each turn may change; of the names nothing is kept -/
theorem iter_led {σ : Type} (Led : σ → List (Addr × Obj)) (c₀ : σ) {r : Addr} {a₀ b₀ : Int} {t₀ u₀ v₀ : Tok} (n : Nat) {m₀ : Str → Option Value} (hh : A.handled = none) (hr : IsRange s.heap r a₀ b₀ 1 t₀ u₀ v₀) (ha : a₀ = 0) (hb : b₀ = (n : Int)) (hn : n ≤ 1000000)
    (F : Fr h₀ env.locals s.heap m₀) (N : News h₀ env.locals s.heap (Led c₀))
    (turn : ∀ (i : Nat) t h tk own (m : Str → Option Value) (c : σ), i < n → OwnOff own ((Led c₀).map (·.1)) → Fr h₀ env.locals h (fun y => if y = x then some (.int (i : Int) t) else m y) → News h₀ env.locals h (Led c ++ own) →
      wpAny (model prog w) A (execs body env) (LedPost h₀ env.locals Led ((Led c₀).map (·.1)) own { s with heap := h, toks := tk } Q) E { s with heap := h, toks := tk })
    (done : ∀ m c h tk, Fr h₀ env.locals h m → News h₀ env.locals h (Led c) → Q .next { s with heap := h, toks := tk }) :
    wpAny (model prog w) A (pyIter (.ref r)) (fun it s₂ => LoopAtV prog w A h₀ env x body Q E it s₂) E s := by
  refine iter_rg n (fun _ _ nx => ∃ c, nx = Led c) hh hr ha hb hn F N ⟨c₀, rfl⟩ ?_ ?_
  · rintro i t h tk own m nx hin ho ⟨c, rfl⟩ F' N'
    exact turn i t h tk own m c hin ho F' N'
  · rintro m nx h tk ⟨c, rfl⟩ F' N'
    exact done m c h tk F' N'
end
theorem item2 {a b v : Value} {i : Nat} (h : (#[a, b] : Array Value)[i]? = some v) : v = a ∨ v = b := by
  rcases i with _ | _ | i
  · exact .inl (Option.some.inj h).symm
  · exact .inr (Option.some.inj h).symm
  · simp at h
theorem item_mem {items : Array Value} {v : Value} {i : Nat} (h : items[i]? = some v) : v ∈ items.toList := by
  rw [← Array.getElem?_toList] at h
  exact List.mem_of_getElem? h
noncomputable def OneSg (y : Str) : Prop := ∃ c, y = ⟨#[c]⟩ ∧ c ∈ [115, 46, 233, 127, 93, 60, 39, 65533, 1, 11, 65534]
theorem join_sg : ∀ cs : List Str, (∀ y ∈ cs, OneSg y) → (Str.join (Str.ofString "") cs).length = cs.length ∧ ∀ i, i < (Str.join (Str.ofString "") cs).length → ch (Str.join (Str.ofString "") cs) i ∈ [115, 46, 233, 127, 93, 60, 39, 65533, 1, 11, 65534]
  | [], _ => ⟨rfl, fun i h => absurd h (Nat.not_lt_zero i)⟩
  | [y], h => by
    obtain ⟨c, rfl, hc⟩ := h y (.head _)
    exact ⟨rfl, fun i hi => by
      have : i = 0 := by
        have hi : i < 1 := hi
        (first | lia | omega)
      subst this
      exact hc⟩
  | y :: z :: r, h => by
    obtain ⟨h1, h2⟩ := join_sg (z :: r) (fun y hy => h y (.tail _ hy))
    obtain ⟨c, rfl, hc⟩ := h y (.head _)
    have e : Str.join (Str.ofString "") (⟨#[c]⟩ :: z :: r) = ⟨#[c]⟩ ++ (Str.ofString "" ++ Str.join (Str.ofString "") (z :: r)) := by
      rw [← app_assoc]; rfl
    have e0 : Str.ofString "" ++ Str.join (Str.ofString "") (z :: r) = Str.join (Str.ofString "") (z :: r) := by
      show (⟨#[] ++ _⟩ : Str) = _
      rw [Array.empty_append]
    rw [e, e0]
    refine ⟨by rw [len_app, h1]; show 1 + _ = _; simp; (first | lia | omega), fun i hi => ?_⟩
    by_cases q : i < 1
    · rw [ch_l (show i < (⟨#[c]⟩ : Str).length from q)]
      have : i = 0 := by (first | lia | omega)
      subst this
      exact hc
    · rw [ch_r' (show (⟨#[c]⟩ : Str).length ≤ i from by show 1 ≤ i; (first | lia | omega)) hi]
      rw [len_app] at hi
      exact h2 _ (by have : (⟨#[c]⟩ : Str).length = 1 := rfl; (first | lia | omega))
theorem join_pr : ∀ cs : List Str, (∀ y ∈ cs, Pr y ∧ y.length ≤ 9) → Pr (Str.join (Str.ofString "") cs) ∧ (Str.join (Str.ofString "") cs).length ≤ 9 * cs.length
  | [], _ => ⟨fun i h => absurd h (Nat.not_lt_zero i), Nat.zero_le _⟩
  | [y], h => ⟨(h y (.head _)).1, (h y (.head _)).2⟩
  | y :: z :: r, h => by
    obtain ⟨h1, h2⟩ := join_pr (z :: r) (fun y hy => h y (.tail _ hy))
    obtain ⟨h3, h4⟩ := h y (.head _)
    have e : Str.join (Str.ofString "") (y :: z :: r) = y ++ (Str.ofString "" ++ Str.join (Str.ofString "") (z :: r)) := by
      rw [← app_assoc]; rfl
    have e0 : Str.ofString "" ++ Str.join (Str.ofString "") (z :: r) = Str.join (Str.ofString "") (z :: r) := by
      show (⟨#[] ++ _⟩ : Str) = _
      rw [Array.empty_append]
    rw [e, e0]
    refine ⟨h3.app h1, by rw [len_app]; simp only [List.length_cons] at h2 ⊢; (first | lia | omega)⟩
theorem sum_le {B : Nat} : ∀ cs : List Str, (∀ y ∈ cs, y.length ≤ B) → (cs.map (·.length)).sum ≤ B * cs.length
  | [], _ => Nat.zero_le _
  | y :: r, h => by
    have h1 := sum_le r (fun z hz => h z (.tail _ hz))
    have h2 := h y (.head _)
    simp only [List.map_cons, List.sum_cons, List.length_cons, Nat.mul_add, Nat.mul_one]
    (first | lia | omega)
/-- what the law draws signs and pieces from -/
noncomputable def IsSg (v : Value) : Prop := ∃ y t, v = .str y t ∧ OneSg y
noncomputable def IsPc (v : Value) : Prop := ∃ y t, v = .str y t ∧ Pr y ∧ y.length ≤ 9
theorem isSg {s : String} {t : Tok} (c : Nat) (h : Str.ofString s = ⟨#[c]⟩) (hc : c ∈ [115, 46, 233, 127, 93, 60, 39, 65533, 1, 11, 65534]) : IsSg (.str (Str.ofString s) t) := ⟨_, _, rfl, c, h, hc⟩
theorem pr_of {y : Str} (h : ∀ i, i < y.length → 32 ≤ ch y i ∧ ch y i ≤ 126) : Pr y := h
theorem isPc {s : String} {t : Tok} (h : ∀ i, i < (Str.ofString s).length → 32 ≤ ch (Str.ofString s) i ∧ ch (Str.ofString s) i ≤ 126) (hl : (Str.ofString s).length ≤ 9) : IsPc (.str (Str.ofString s) t) := ⟨_, _, rfl, h, hl⟩
theorem all_mem {P : Value → Prop} {items : Array Value} {v : Value} {i : Nat} (h : items[i]? = some v) (ha : ∀ v ∈ items.toList, P v) : P v := ha v (item_mem h)
theorem sg11 {t1 t2 t3 t4 t5 t6 t7 t8 t9 t10 t11 : Tok} {v : Value} {i : Nat} (h : (#[.str (Str.ofString "s") t1, .str (Str.ofString ".") t2, .str (Str.ofString "é") t3, .str (Str.ofString "\x7f") t4, .str (Str.ofString "]") t5, .str (Str.ofString "<") t6, .str (Str.ofString "'") t7, .str (Str.ofString "\ufffd") t8, .str (Str.ofString "\x01") t9, .str (Str.ofString "\x0b") t10, .str (Str.ofString "\ufffe") t11] : Array Value)[i]? = some v) : IsSg v :=
  all_mem h (List.forall_mem_cons.mpr ⟨isSg 115 (by decide +kernel) (by decide), List.forall_mem_cons.mpr ⟨isSg 46 (by decide +kernel) (by decide), List.forall_mem_cons.mpr ⟨isSg 233 (by decide +kernel) (by decide), List.forall_mem_cons.mpr ⟨isSg 127 (by decide +kernel) (by decide), List.forall_mem_cons.mpr ⟨isSg 93 (by decide +kernel) (by decide), List.forall_mem_cons.mpr ⟨isSg 60 (by decide +kernel) (by decide), List.forall_mem_cons.mpr ⟨isSg 39 (by decide +kernel) (by decide), List.forall_mem_cons.mpr ⟨isSg 65533 (by decide +kernel) (by decide), List.forall_mem_cons.mpr ⟨isSg 1 (by decide +kernel) (by decide), List.forall_mem_cons.mpr ⟨isSg 11 (by decide +kernel) (by decide), List.forall_mem_cons.mpr ⟨isSg 65534 (by decide +kernel) (by decide), List.forall_mem_nil _⟩⟩⟩⟩⟩⟩⟩⟩⟩⟩⟩)
theorem pc12 {t1 t2 t3 t4 t5 t6 t7 t8 t9 t10 t11 t12 : Tok} {v : Value} {i : Nat} (h : (#[.str (Str.ofString "<?>") t1, .str (Str.ofString "<?a?>") t2, .str (Str.ofString "<??>") t3, .str (Str.ofString "?>") t4, .str (Str.ofString "<? ]?>") t5, .str (Str.ofString "<!--<?-->") t6, .str (Str.ofString "'<?'") t7, .str (Str.ofString "x") t8, .str (Str.ofString "<!A>") t9, .str (Str.ofString "]") t10, .str (Str.ofString "\"") t11, .str (Str.ofString "<!-- ]>") t12] : Array Value)[i]? = some v) : IsPc v :=
  all_mem h (List.forall_mem_cons.mpr ⟨isPc (by decide +kernel) (by decide +kernel), List.forall_mem_cons.mpr ⟨isPc (by decide +kernel) (by decide +kernel), List.forall_mem_cons.mpr ⟨isPc (by decide +kernel) (by decide +kernel), List.forall_mem_cons.mpr ⟨isPc (by decide +kernel) (by decide +kernel), List.forall_mem_cons.mpr ⟨isPc (by decide +kernel) (by decide +kernel), List.forall_mem_cons.mpr ⟨isPc (by decide +kernel) (by decide +kernel), List.forall_mem_cons.mpr ⟨isPc (by decide +kernel) (by decide +kernel), List.forall_mem_cons.mpr ⟨isPc (by decide +kernel) (by decide +kernel), List.forall_mem_cons.mpr ⟨isPc (by decide +kernel) (by decide +kernel), List.forall_mem_cons.mpr ⟨isPc (by decide +kernel) (by decide +kernel), List.forall_mem_cons.mpr ⟨isPc (by decide +kernel) (by decide +kernel), List.forall_mem_cons.mpr ⟨isPc (by decide +kernel) (by decide +kernel), List.forall_mem_nil _⟩⟩⟩⟩⟩⟩⟩⟩⟩⟩⟩⟩)
/-- the two lists' members may be forgotten -/
theorem hideSP {X : Prop} {h₀ h : Heap} {L aP aS : Addr} {led : List (Addr × Obj)} {SA PA : Array Value} {n k : Nat} (N : News h₀ L h ((aP, listOf PA n) :: (aS, listOf SA k) :: led)) (hP : ∀ (i : Nat) v, PA[i]? = some v → IsPc v) (hP1 : PA.size = 12) (hS : ∀ (i : Nat) v, SA[i]? = some v → IsSg v) (hS1 : SA.size = 11)
    (go : ∀ SA' PA' : Array Value, PA'.size = 12 → SA'.size = 11 → (∀ (i : Nat) v, PA'[i]? = some v → IsPc v) → (∀ (i : Nat) v, SA'[i]? = some v → IsSg v) → News h₀ L h ((aP, listOf PA' n) :: (aS, listOf SA' k) :: led) → X) : X := go SA PA hP1 hS1 hP hS N
theorem c4_el {X : Int × CTok × Int × CTok → Prop} (k : ∀ a b c d, X (a, b, c, d)) (c : Int × CTok × Int × CTok) : X c := k c.1 c.2.1 c.2.2.1 c.2.2.2
/-- the strings drawn so far, beside a ledger with one source -/
abbrev JoI (f : Int × CTok × Int × CTok → List (Addr × Obj)) (P : Str → Prop) (i : Nat) (ys : List Value) (news : List (Addr × Obj)) : Prop :=
  ∃ (c : Int × CTok × Int × CTok) (cs : List Str), news = f c ∧ StrsAre ys cs ∧ cs.length = i ∧ ∀ y ∈ cs, P y
theorem joi_dn {f : Int × CTok × Int × CTok → List (Addr × Obj)} {P : Str → Prop} {i : Nat} {ys : List Value} {X : List (Addr × Obj) → Prop} (k : ∀ a b c d cs, StrsAre ys cs → cs.length = i → (∀ y ∈ cs, P y) → X (f (a, b, c, d))) (news : List (Addr × Obj)) (h : JoI f P i ys news) : X news := by
  obtain ⟨c, cs, rfl, h1, h2, h3⟩ := h
  exact k c.1 c.2.1 c.2.2.1 c.2.2.2 cs h1 h2 h3
theorem joi_st {f : Int × CTok × Int × CTok → List (Addr × Obj)} {P : Str → Prop} {i n : Nat} {ys : List Value} {X : List (Addr × Obj) → Prop} (k : ∀ a b c d cs, i < n → StrsAre ys cs → cs.length = i → (∀ y ∈ cs, P y) → X (f (a, b, c, d))) (news : List (Addr × Obj)) (hi : i < n) : JoI f P i ys news → X news :=
  joi_dn (X := X) (fun a b c d cs => k a b c d cs hi) news
theorem tl4 {t1 t2 t3 t4 : Tok} {v : Value} {i : Nat} (h : (#[.str (Str.ofString "]><a/>") t1, .str (Str.ofString "]>") t2, .str (Str.ofString "] x") t3, .str (Str.ofString "") t4] : Array Value)[i]? = some v) : IsPc v :=
  all_mem h (List.forall_mem_cons.mpr ⟨isPc (by decide +kernel) (by decide +kernel), List.forall_mem_cons.mpr ⟨isPc (by decide +kernel) (by decide +kernel), List.forall_mem_cons.mpr ⟨isPc (by decide +kernel) (by decide +kernel), List.forall_mem_cons.mpr ⟨isPc (by decide +kernel) (by decide +kernel), List.forall_mem_nil _⟩⟩⟩⟩)
/-- the public name: none, or "p" -/
noncomputable def IsPub (v : Value) : Prop := v = .none ∨ ∃ t, v = .str (Str.ofString "p") t
theorem isPub {t : CTok} {v : Value} {i : Nat} (h : (#[.none, .str (Str.ofString "p") t] : Array Value)[i]? = some v) : IsPub v := by
  rcases item2 h with e | e
  · exact .inl e
  · exact .inr ⟨_, e⟩
theorem right_SP (w mean mg mb) (v : Value) (S I Z : Str) (tS tI tZ : CTok) (led : List (Addr × Obj)) (hv : IsPub v) (hS : SgOk S) (hI : Pr I) (hZ : Pr Z) (hIl : I.length ≤ 60) (hZl : Z.length ≤ 40) :
    CallsToS w mean mg mb 24 1019 led [v, .str S tS, .str I tI, .str Z tZ] fun R => R (.bool true) led := by
  rcases hv with rfl | ⟨t, rfl⟩
  · exact right_S _ _ _ _ _ _ _ _ _ _ _ hS hI hZ hIl hZl
  · exact right_P _ _ _ _ _ _ _ _ _ _ _ _ hS hI hZ hIl hZl
end Mine
end -- Ln
section -- reader
open Mine
local macro_rules | `(tactic| k_mem) => `(tactic| first | assumption | exact List.Mem.head _ | (refine' List.Mem.tail _ ?_; k_mem))
local macro_rules | `(tactic| is_list) => `(tactic| exact News.isList (by k_asm) (by k_mem))
local macro_rules | `(tactic| walk_at "exec While BoolOp cons nil") => `(tactic| (k_here; k_dflt (refine whl_start 100 ?_)))
local macro_rules | `(tactic| walk_at "exec While Compare cons nil") => `(tactic| (k_here; k_dflt (refine whl_start 100 ?_)))
local macro_rules | `(tactic| walk_at "exec While Constant cons nil") => `(tactic| (k_here; k_dflt (refine whl_start 100 ?_)))

section -- R
namespace Mine
set_option maxHeartbeats 1000000 in
theorem between_0 (w mean mg mb) (en gr r rD e eD rows c d fr fD fs nm : Addr) (q0 q1 q2 q3 q4 q5 q6 q7 q8 q9 qa qx qy t1 tt t2 tk : CTok) (st : List (Addr × Obj)) (hs : OwnOff st [d, rows, nm]) (l0 : @LT.lt Nat _ rows d) (l1 : @LT.lt Nat _ d nm) (m1 : (r, instObj 961 rD) ∈ st) (m2 : (rD, dictOf [⟨PyData.keyHash w.params (Str.ofString "entities"), .str (Str.ofString "entities") q0, .ref en⟩, ⟨PyData.keyHash w.params (Str.ofString "on_doctype"), .str (Str.ofString "on_doctype") q1, .none⟩, ⟨PyData.keyHash w.params (Str.ofString "found"), .str (Str.ofString "found") q2, .ref e⟩, ⟨PyData.keyHash w.params (Str.ofString "frames"), .str (Str.ofString "frames") q3, .ref fs⟩, ⟨PyData.keyHash w.params (Str.ofString "growth"), .str (Str.ofString "growth") q4, .ref gr⟩, ⟨PyData.keyHash w.params (Str.ofString "names"), .str (Str.ofString "names") q5, .ref nm⟩] 6) ∈ st) (m3 : (e, instObj 820 eD) ∈ st) (m4 : (eD, dictOf [⟨PyData.keyHash w.params (Str.ofString "rows"), .str (Str.ofString "rows") q6, .ref rows⟩] 1) ∈ st) (m5 : (fs, listOf #[.ref fr] 0) ∈ st) (m6 : (fr, instObj 841 fD) ∈ st) (m7 : (fD, dictOf [⟨PyData.keyHash w.params (Str.ofString "cursor"), .str (Str.ofString "cursor") q7, .ref c⟩, ⟨PyData.keyHash w.params (Str.ofString "name"), .str (Str.ofString "name") q8, .none⟩, ⟨PyData.keyHash w.params (Str.ofString "place"), .str (Str.ofString "place") q9, .int 0 qx⟩, ⟨PyData.keyHash w.params (Str.ofString "many"), .str (Str.ofString "many") qa, .int 0 qy⟩] 4) ∈ st) (m8 : (c, instObj 418 d) ∈ st) : CallsTo w mean mg mb 12 881 ((d, curD w.params t1 T2 tt t2 0 tk) :: (rows, listOf (#[]) (0)) :: (nm, listOf (#[]) (0)) :: st) [.ref r, .ref c] fun base h₀ fr9 L m s Q E =>
    ∀ tk' ua0 ua1 ua2 a0, (∀ q ∈ (d, curD w.params t1 T2 tt t2 0 tk) :: (rows, listOf (#[]) (0)) :: (nm, listOf (#[]) (0)) :: st, @LT.lt Nat _ q.1 a0) → RetTo h₀ L m s Q .none ((a0, tupO [.str (Str.ofString "instruction") ua0, .str (Str.ofString "p") ua1, .str (Str.ofString "q") ua2]) :: (d, curD w.params t1 T2 tt t2 ((7 : Nat) : Int) tk') :: (rows, listOf (#[.ref a0]) (1)) :: (nm, listOf (#[]) (0)) :: st) := by
  have sp0 : Sps T2 0 0 := sps0 (by decide +kernel) (by decide +kernel)
  have sp7 : Sps T2 7 7 := sps0 (by decide +kernel) (by decide +kernel)
  unfold CallsTo
  intros
  rename_i hret
  refine wpAny_call ?_
  k_dflt (refine' code_def ?k1 ?k2 ?k3 ?k4 ?k5 ?kA ?kF ?kK ?k6 ?k7 ?k8 ?k9 ?kB ?_ ?c2 ?c3 ?c4 ?c5; (case kA | kF => exact rfl); (case kK => first | exact rfl | assumption); (case k1 | k2 | k3 | k4 | k5 => k_asm); (case k6 | k7 => k_is); (case k8 => first | exact room_0 (by assumption) | ktr_room); (case k9 => first | exact BindsTo.of_eq rfl | exact binds_K (by k_in) rfl (by k_is) rfl rfl rfl); (case c5 => decide); (case kB => exact locs rfl); (case c2 | c3 | c4 => exact rfl); k_whole; intro g' L' h' FG' F' N' B' X' T'; (try dsimp only); (try k_fold))
  (k_steps; (try repeat' ((with_reducible refine Stop.by ?_); (first | ((first | (with_reducible show wpAny _ _ (call (Value.ref 211) _) _ _ _) | (with_reducible show wpAny _ _ (call (Value.ref 380) _) _ _ _) | (with_reducible show wpAny _ _ (call (Value.ref 322) _) _ _ _) | (with_reducible show wpAny _ _ (call (Value.ref 359) _) _ _ _) | (with_reducible show wpAny _ _ (call (Value.ref 401) _) _ _ _) | (with_reducible show wpAny _ _ (call (Value.ref 366) _) _ _ _) | (with_reducible show wpAny _ _ (call (Value.ref 225) _) _ _ _) | (with_reducible show wpAny _ _ (call (Value.ref 387) _) _ _ _) | (with_reducible show wpAny _ _ (call (Value.ref 337) _) _ _ _)); k_dflt (refine' CM.useI ?zs ?z1 ?z2 ?z3 ?z4 ?z5 ?zK ?zd ?zu ?zc ?zU ?ze ?_; (case z1 | z2 | z3 | z4 | z5 => k_asm); (case zK => first | exact rfl | assumption); (case zc => k_mem); (case zU => k_updF); (case ze => first | with_reducible exact rfl | with_reducible exact ca1 _ | with_reducible exact caN _ _ | exact ca0); (case zs => first | exact (end_T2 _ _ _ _) | exact (ahead_x _ _ _ _ _) | exact (over_yes _ _ _ _ _ _ (by walk_at "zz side") (by walk_at "zz side")) | exact (over_no _ _ _ _ _ _ (by walk_at "zz side") (by walk_at "zz side")) | exact (skip_yes _ _ _ _ _ _ (by walk_at "zz side") (by walk_at "zz side") _ _ (by walk_at "zz side") (by walk_at "zz side")) | exact (skip_no _ _ _ _ _ _ (by walk_at "zz side") (by walk_at "zz side") _ _ (by walk_at "zz side") (by walk_at "zz side")) | exact (name_a8 _ _ _ _) | exact (expect_yes _ _ _ _ _ _ (by walk_at "zz side") (by walk_at "zz side") _ _ (by walk_at "zz side") (by walk_at "zz side")) | exact (instr_T2 _ _ _ _) | exact (spaces_j _ _ _ _ _ _ _ (by walk_at "zz side") (by walk_at "zz side")) | exact (looks_yes _ _ _ _ _ _ (by walk_at "zz side") (by walk_at "zz side") _ _ (by walk_at "zz side")) | exact (looks_no _ _ _ _ _ _ (by walk_at "zz side") (by walk_at "zz side") _ _ (by walk_at "zz side"))); (case zd => first | exact room_d (by assumption) (by exact rfl) | exact room_e (by assumption) (by exact rfl) | ktr_room); (case zu => first | exact room_u (by assumption) (by exact rfl) | exact room_v (by assumption) (by exact rfl) | exact room_x (by assumption) (by exact rfl) | exact room_w (by assumption) (by exact rfl) | exact room_y (by assumption) (by exact rfl) | ktr_units); (try dsimp only [RetV, len_0, len_1, len_2, len_3, len_4, len_5, len_6, len_7, len_8, len_9, len_10, len_11, len_12, len_13, len_14, len_15, len_16, len_17, len_18]); (with_reducible (repeat' (first | (refine And.intro ?_ ?_) | intro))); (all_goals (try dsimp only)); (all_goals (try (rename (∀ p : Addr × Obj, _ ∈ _ → @LT.lt Nat _ _ _) => zl1; k_lt zl1))); (all_goals (try contradiction)))) | (k_dflt (refine wpAny_call ?_; (refine' code_def ?k1 ?k2 ?k3 ?k4 ?k5 ?kA ?kF ?kK ?k6 ?k7 ?k8 ?k9 ?kB ?_ ?c2 ?c3 ?c4 ?c5; (case kA | kF => exact rfl); (case kK => first | exact rfl | assumption); (case k1 | k2 | k3 | k4 | k5 => k_asm); (case k6 | k7 => k_is); (case k8 => first | exact room_0 (by assumption) | ktr_room); (case k9 => first | exact BindsTo.of_eq rfl | exact binds_K (by k_in) rfl (by k_is) rfl rfl rfl); (case c5 => decide); (case kB => exact locs rfl); (case c2 | c3 | c4 => exact rfl); k_whole; intro g' L' h' FG' F' N' B' X' T'; (try dsimp only); (try k_fold))))); k_steps)))
  rename News _ _ _ _ => nn
  rename @LT.lt Nat _ _ _ ∧ _ => la
  exact hret _ _ _ _ _ (fun p hp => kst_ltOf (l := (_, _) :: (_, _) :: (_, _) :: _) la p hp) _ _ (by assumption) nn

set_option maxHeartbeats 1000000 in
theorem start_7 (w mean mg mb) (en gr r rD e eD rows c d fr fD fs nm : Addr) (q0 q1 q2 q3 q4 q5 q6 q7 q8 q9 qa qx qy t1 tt t2 tk : CTok) (st : List (Addr × Obj)) (hs : OwnOff st [d, rows, nm]) (l0 : @LT.lt Nat _ rows d) (l1 : @LT.lt Nat _ d nm) (m1 : (r, instObj 961 rD) ∈ st) (m2 : (rD, dictOf [⟨PyData.keyHash w.params (Str.ofString "entities"), .str (Str.ofString "entities") q0, .ref en⟩, ⟨PyData.keyHash w.params (Str.ofString "on_doctype"), .str (Str.ofString "on_doctype") q1, .none⟩, ⟨PyData.keyHash w.params (Str.ofString "found"), .str (Str.ofString "found") q2, .ref e⟩, ⟨PyData.keyHash w.params (Str.ofString "frames"), .str (Str.ofString "frames") q3, .ref fs⟩, ⟨PyData.keyHash w.params (Str.ofString "growth"), .str (Str.ofString "growth") q4, .ref gr⟩, ⟨PyData.keyHash w.params (Str.ofString "names"), .str (Str.ofString "names") q5, .ref nm⟩] 6) ∈ st) (m3 : (e, instObj 820 eD) ∈ st) (m4 : (eD, dictOf [⟨PyData.keyHash w.params (Str.ofString "rows"), .str (Str.ofString "rows") q6, .ref rows⟩] 1) ∈ st) (m5 : (fs, listOf #[.ref fr] 0) ∈ st) (m6 : (fr, instObj 841 fD) ∈ st) (m7 : (fD, dictOf [⟨PyData.keyHash w.params (Str.ofString "cursor"), .str (Str.ofString "cursor") q7, .ref c⟩, ⟨PyData.keyHash w.params (Str.ofString "name"), .str (Str.ofString "name") q8, .none⟩, ⟨PyData.keyHash w.params (Str.ofString "place"), .str (Str.ofString "place") q9, .int 0 qx⟩, ⟨PyData.keyHash w.params (Str.ofString "many"), .str (Str.ofString "many") qa, .int 0 qy⟩] 4) ∈ st) (m8 : (c, instObj 418 d) ∈ st) (v0 : Value) (n0 : Nat) : CallsTo w mean mg mb 14 923 ((d, curD w.params t1 T2 tt t2 ((7 : Nat) : Int) tk) :: (rows, listOf (#[v0]) (n0)) :: (nm, listOf (#[]) (0)) :: st) [.ref r, .ref c] fun base h₀ fr9 L m s Q E =>
    ∀ tk' ub0 ub1 u2 at_ b, @LT.lt Nat _ nm at_ → (∀ q ∈ (at_, tupO []) :: (d, curD w.params t1 T2 tt t2 ((7 : Nat) : Int) tk) :: (rows, listOf (#[v0]) (n0)) :: (nm, listOf (#[]) (0)) :: st, @LT.lt Nat _ q.1 b) → RetTo h₀ L m s Q .none ((b, tupO [.str (Str.ofString "start") ub0, .str (Str.ofString "a") ub1, .ref at_]) :: (at_, tupO []) :: (d, curD w.params t1 T2 tt t2 ((10 : Nat) : Int) tk') :: (rows, listOf (#[v0, .ref b]) (n0+1)) :: (nm, listOf (#[.str (Str.ofString "a") u2]) (1)) :: st) := by
  have sp9 : Sps T2 9 9 := sps0 (by decide +kernel) (by decide +kernel)
  unfold CallsTo
  intros
  rename_i hret
  refine wpAny_call ?_
  k_dflt (refine' code_def ?k1 ?k2 ?k3 ?k4 ?k5 ?kA ?kF ?kK ?k6 ?k7 ?k8 ?k9 ?kB ?_ ?c2 ?c3 ?c4 ?c5; (case kA | kF => exact rfl); (case kK => first | exact rfl | assumption); (case k1 | k2 | k3 | k4 | k5 => k_asm); (case k6 | k7 => k_is); (case k8 => first | exact room_0 (by assumption) | ktr_room); (case k9 => first | exact BindsTo.of_eq rfl | exact binds_K (by k_in) rfl (by k_is) rfl rfl rfl); (case c5 => decide); (case kB => exact locs rfl); (case c2 | c3 | c4 => exact rfl); k_whole; intro g' L' h' FG' F' N' B' X' T'; (try dsimp only); (try k_fold))
  (k_steps; (try repeat' ((with_reducible refine Stop.by ?_); (first | ((first | (with_reducible show wpAny _ _ (call (Value.ref 211) _) _ _ _) | (with_reducible show wpAny _ _ (call (Value.ref 380) _) _ _ _) | (with_reducible show wpAny _ _ (call (Value.ref 322) _) _ _ _) | (with_reducible show wpAny _ _ (call (Value.ref 359) _) _ _ _) | (with_reducible show wpAny _ _ (call (Value.ref 401) _) _ _ _) | (with_reducible show wpAny _ _ (call (Value.ref 366) _) _ _ _) | (with_reducible show wpAny _ _ (call (Value.ref 225) _) _ _ _) | (with_reducible show wpAny _ _ (call (Value.ref 387) _) _ _ _)); k_dflt (refine' CM.useI ?zs ?z1 ?z2 ?z3 ?z4 ?z5 ?zK ?zd ?zu ?zc ?zU ?ze ?_; (case z1 | z2 | z3 | z4 | z5 => k_asm); (case zK => first | exact rfl | assumption); (case zc => k_mem); (case zU => k_updF); (case ze => first | with_reducible exact rfl | with_reducible exact ca1 _ | with_reducible exact caN _ _ | exact ca0); (case zs => first | exact (end_T2 _ _ _ _) | exact (ahead_x _ _ _ _ _) | exact (over_yes _ _ _ _ _ _ (by walk_at "zz side") (by walk_at "zz side")) | exact (over_no _ _ _ _ _ _ (by walk_at "zz side") (by walk_at "zz side")) | exact (skip_yes _ _ _ _ _ _ (by walk_at "zz side") (by walk_at "zz side") _ _ (by walk_at "zz side") (by walk_at "zz side")) | exact (skip_no _ _ _ _ _ _ (by walk_at "zz side") (by walk_at "zz side") _ _ (by walk_at "zz side") (by walk_at "zz side")) | exact (name_a8 _ _ _ _) | exact (expect_yes _ _ _ _ _ _ (by walk_at "zz side") (by walk_at "zz side") _ _ (by walk_at "zz side") (by walk_at "zz side")) | exact (instr_T2 _ _ _ _) | exact (spaces_j _ _ _ _ _ _ _ (by walk_at "zz side") (by walk_at "zz side"))); (case zd => first | exact room_d (by assumption) (by exact rfl) | exact room_e (by assumption) (by exact rfl) | ktr_room); (case zu => first | exact room_u (by assumption) (by exact rfl) | exact room_v (by assumption) (by exact rfl) | exact room_x (by assumption) (by exact rfl) | exact room_w (by assumption) (by exact rfl) | exact room_y (by assumption) (by exact rfl) | ktr_units); (try dsimp only [RetV, len_0, len_1, len_2, len_3, len_4, len_5, len_6, len_7, len_8, len_9, len_10, len_11, len_12, len_13, len_14, len_15, len_16, len_17, len_18]); (with_reducible (repeat' (first | (refine And.intro ?_ ?_) | intro))); (all_goals (try dsimp only)); (all_goals (try (rename (∀ p : Addr × Obj, _ ∈ _ → @LT.lt Nat _ _ _) => zl1; k_lt zl1))); (all_goals (try contradiction)))) | (k_dflt (refine wpAny_call ?_; (refine' code_def ?k1 ?k2 ?k3 ?k4 ?k5 ?kA ?kF ?kK ?k6 ?k7 ?k8 ?k9 ?kB ?_ ?c2 ?c3 ?c4 ?c5; (case kA | kF => exact rfl); (case kK => first | exact rfl | assumption); (case k1 | k2 | k3 | k4 | k5 => k_asm); (case k6 | k7 => k_is); (case k8 => first | exact room_0 (by assumption) | ktr_room); (case k9 => first | exact BindsTo.of_eq rfl | exact binds_K (by k_in) rfl (by k_is) rfl rfl rfl); (case c5 => decide); (case kB => exact locs rfl); (case c2 | c3 | c4 => exact rfl); k_whole; intro g' L' h' FG' F' N' B' X' T'; (try dsimp only); (try k_fold))))); k_steps)))
  rename News _ _ _ _ => nn
  rename @LT.lt Nat _ _ _ ∧ _ => la
  have lb := la.2.1
  have lc := la.2.2.2.2.2
  exact hret _ _ _ _ _ _ (by (first | lia | omega)) (fun p hp => kst_ltOf (l := (_, _) :: (_, _) :: (_, _) :: (_, _) :: _) ⟨lb, lc⟩ p hp) _ _ (by assumption) (fun p hp => nn p (sub_cons (.head _) (sub_cons (.tail _ (.tail _ (.head _))) (fun p hp => .tail _ (.tail _ (.tail _ (.tail _ (.tail _ (.tail _ hp))))))) p hp))

set_option maxHeartbeats 1000000 in
theorem plain_10 (w mean mg mb) (en gr r rD e eD rows c d fr fD fs nm : Addr) (q0 q1 q2 q3 q4 q5 q6 q7 q8 q9 qa qx qy t1 tt t2 tk : CTok) (st : List (Addr × Obj)) (hs : OwnOff st [d, rows, nm]) (l0 : @LT.lt Nat _ rows d) (l1 : @LT.lt Nat _ d nm) (m1 : (r, instObj 961 rD) ∈ st) (m2 : (rD, dictOf [⟨PyData.keyHash w.params (Str.ofString "entities"), .str (Str.ofString "entities") q0, .ref en⟩, ⟨PyData.keyHash w.params (Str.ofString "on_doctype"), .str (Str.ofString "on_doctype") q1, .none⟩, ⟨PyData.keyHash w.params (Str.ofString "found"), .str (Str.ofString "found") q2, .ref e⟩, ⟨PyData.keyHash w.params (Str.ofString "frames"), .str (Str.ofString "frames") q3, .ref fs⟩, ⟨PyData.keyHash w.params (Str.ofString "growth"), .str (Str.ofString "growth") q4, .ref gr⟩, ⟨PyData.keyHash w.params (Str.ofString "names"), .str (Str.ofString "names") q5, .ref nm⟩] 6) ∈ st) (m3 : (e, instObj 820 eD) ∈ st) (m4 : (eD, dictOf [⟨PyData.keyHash w.params (Str.ofString "rows"), .str (Str.ofString "rows") q6, .ref rows⟩] 1) ∈ st) (m5 : (fs, listOf #[.ref fr] 0) ∈ st) (m6 : (fr, instObj 841 fD) ∈ st) (m7 : (fD, dictOf [⟨PyData.keyHash w.params (Str.ofString "cursor"), .str (Str.ofString "cursor") q7, .ref c⟩, ⟨PyData.keyHash w.params (Str.ofString "name"), .str (Str.ofString "name") q8, .none⟩, ⟨PyData.keyHash w.params (Str.ofString "place"), .str (Str.ofString "place") q9, .int 0 qx⟩, ⟨PyData.keyHash w.params (Str.ofString "many"), .str (Str.ofString "many") qa, .int 0 qy⟩] 4) ∈ st) (m8 : (c, instObj 418 d) ∈ st) (a0 at_ b : Addr) (ua0 ua1 ua2 ub0 ub1 : CTok) (n0 nN : Nat) (N9 : Array Value) (m9 : (a0, tupO [.str (Str.ofString "instruction") ua0, .str (Str.ofString "p") ua1, .str (Str.ofString "q") ua2]) ∈ st) (m10 : (at_, tupO []) ∈ st) (m11 : (b, tupO [.str (Str.ofString "start") ub0, .str (Str.ofString "a") ub1, .ref at_]) ∈ st) : CallsTo w mean mg mb 14 916 ((d, curD w.params t1 T2 tt t2 ((10 : Nat) : Int) tk) :: (rows, listOf (#[.ref a0, .ref b]) (n0)) :: (nm, listOf (N9) (nN)) :: st) [.ref r, .ref c] fun base h₀ fr9 L m s Q E =>
    ∀ tk' uc0 uc1 a, (∀ q ∈ (d, curD w.params t1 T2 tt t2 ((10 : Nat) : Int) tk) :: (rows, listOf (#[.ref a0, .ref b]) (n0)) :: (nm, listOf (N9) (nN)) :: st, @LT.lt Nat _ q.1 a) → RetTo h₀ L m s Q .none ((a, tupO [.str (Str.ofString "text") uc0, .str (Str.ofString "x") uc1]) :: (d, curD w.params t1 T2 tt t2 ((11 : Nat) : Int) tk') :: (rows, listOf (#[.ref a0, .ref b, .ref a]) (n0+1)) :: (nm, listOf (N9) (nN)) :: st) := by
  unfold CallsTo
  intros
  rename_i hret
  refine wpAny_call ?_
  k_dflt (refine' code_def ?k1 ?k2 ?k3 ?k4 ?k5 ?kA ?kF ?kK ?k6 ?k7 ?k8 ?k9 ?kB ?_ ?c2 ?c3 ?c4 ?c5; (case kA | kF => exact rfl); (case kK => first | exact rfl | assumption); (case k1 | k2 | k3 | k4 | k5 => k_asm); (case k6 | k7 => k_is); (case k8 => first | exact room_0 (by assumption) | ktr_room); (case k9 => first | exact BindsTo.of_eq rfl | exact binds_K (by k_in) rfl (by k_is) rfl rfl rfl); (case c5 => decide); (case kB => exact locs rfl); (case c2 | c3 | c4 => exact rfl); k_whole; intro g' L' h' FG' F' N' B' X' T'; (try dsimp only); (try k_fold))
  (k_steps; (try repeat' ((with_reducible refine Stop.by ?_); (first | ((with_reducible show wpAny _ _ (call (Value.ref 183) _) _ _ _); k_dflt (refine' CallsTo.use ?zs ?z1 ?z2 ?z3 ?z4 ?z5 ?zK ?zd ?zu ?_; (case z1 | z2 | z3 | z4 | z5 => k_asm); (case zK => first | exact rfl | assumption); (case zs => exact (PM.use (check_all _ _ _ _ _ _ _ _ (by walk_at "zz side") (by walk_at "zz side")) _)); (case zd => first | exact room_d (by assumption) (by exact rfl) | exact room_e (by assumption) (by exact rfl) | ktr_room); (case zu => first | exact room_u (by assumption) (by exact rfl) | exact room_v (by assumption) (by exact rfl) | exact room_x (by assumption) (by exact rfl) | exact room_w (by assumption) (by exact rfl) | exact room_y (by assumption) (by exact rfl) | ktr_units); (try dsimp only [RetV, len_0, len_1, len_2, len_3, len_4, len_5, len_6, len_7, len_8, len_9, len_10, len_11, len_12, len_13, len_14, len_15, len_16, len_17, len_18]); (with_reducible (repeat' (first | (refine And.intro ?_ ?_) | intro))); (all_goals (try dsimp only)); (all_goals (try (rename (∀ p : Addr × Obj, _ ∈ _ → @LT.lt Nat _ _ _) => zl1; k_lt zl1))); (all_goals (try contradiction)))) | ((first | (with_reducible show wpAny _ _ (call (Value.ref 211) _) _ _ _) | (with_reducible show wpAny _ _ (call (Value.ref 380) _) _ _ _)); k_dflt (refine' CM.useI ?zs ?z1 ?z2 ?z3 ?z4 ?z5 ?zK ?zd ?zu ?zc ?zU ?ze ?_; (case z1 | z2 | z3 | z4 | z5 => k_asm); (case zK => first | exact rfl | assumption); (case zc => k_mem); (case zU => k_updF); (case ze => first | with_reducible exact rfl | with_reducible exact ca1 _ | with_reducible exact caN _ _ | exact ca0); (case zs => first | exact (end_T2 _ _ _ _) | exact (ahead_x _ _ _ _ _)); (case zd => first | exact room_d (by assumption) (by exact rfl) | exact room_e (by assumption) (by exact rfl) | ktr_room); (case zu => first | exact room_u (by assumption) (by exact rfl) | exact room_v (by assumption) (by exact rfl) | exact room_x (by assumption) (by exact rfl) | exact room_w (by assumption) (by exact rfl) | exact room_y (by assumption) (by exact rfl) | ktr_units); (try dsimp only [RetV, len_0, len_1, len_2, len_3, len_4, len_5, len_6, len_7, len_8, len_9, len_10, len_11, len_12, len_13, len_14, len_15, len_16, len_17, len_18]); (with_reducible (repeat' (first | (refine And.intro ?_ ?_) | intro))); (all_goals (try dsimp only)); (all_goals (try (rename (∀ p : Addr × Obj, _ ∈ _ → @LT.lt Nat _ _ _) => zl1; k_lt zl1))); (all_goals (try contradiction)))) | (k_dflt (refine wpAny_call ?_; (refine' code_def ?k1 ?k2 ?k3 ?k4 ?k5 ?kA ?kF ?kK ?k6 ?k7 ?k8 ?k9 ?kB ?_ ?c2 ?c3 ?c4 ?c5; (case kA | kF => exact rfl); (case kK => first | exact rfl | assumption); (case k1 | k2 | k3 | k4 | k5 => k_asm); (case k6 | k7 => k_is); (case k8 => first | exact room_0 (by assumption) | ktr_room); (case k9 => first | exact BindsTo.of_eq rfl | exact binds_K (by k_in) rfl (by k_is) rfl rfl rfl); (case c5 => decide); (case kB => exact locs rfl); (case c2 | c3 | c4 => exact rfl); k_whole; intro g' L' h' FG' F' N' B' X' T'; (try dsimp only); (try k_fold))))); k_steps)))
  rename News _ _ _ _ => nn
  rename @LT.lt Nat _ _ _ ∧ _ => la
  exact hret _ _ _ _ (fun p hp => kst_ltOf (l := (_, _) :: (_, _) :: (_, _) :: _) la.2 p hp) _ _ (by assumption) (fun p hp => nn p (sub_cons (.head _) (fun p hp => .tail _ (.tail _ hp)) p hp))

set_option maxHeartbeats 1000000 in
theorem end_11 (w mean mg mb) (en gr r rD e eD rows c d fr fD fs nm : Addr) (q0 q1 q2 q3 q4 q5 q6 q7 q8 q9 qa qx qy t1 tt t2 tk : CTok) (st : List (Addr × Obj)) (hs : OwnOff st [d, rows, nm]) (l0 : @LT.lt Nat _ rows d) (l1 : @LT.lt Nat _ d nm) (m1 : (r, instObj 961 rD) ∈ st) (m2 : (rD, dictOf [⟨PyData.keyHash w.params (Str.ofString "entities"), .str (Str.ofString "entities") q0, .ref en⟩, ⟨PyData.keyHash w.params (Str.ofString "on_doctype"), .str (Str.ofString "on_doctype") q1, .none⟩, ⟨PyData.keyHash w.params (Str.ofString "found"), .str (Str.ofString "found") q2, .ref e⟩, ⟨PyData.keyHash w.params (Str.ofString "frames"), .str (Str.ofString "frames") q3, .ref fs⟩, ⟨PyData.keyHash w.params (Str.ofString "growth"), .str (Str.ofString "growth") q4, .ref gr⟩, ⟨PyData.keyHash w.params (Str.ofString "names"), .str (Str.ofString "names") q5, .ref nm⟩] 6) ∈ st) (m3 : (e, instObj 820 eD) ∈ st) (m4 : (eD, dictOf [⟨PyData.keyHash w.params (Str.ofString "rows"), .str (Str.ofString "rows") q6, .ref rows⟩] 1) ∈ st) (m5 : (fs, listOf #[.ref fr] 0) ∈ st) (m6 : (fr, instObj 841 fD) ∈ st) (m7 : (fD, dictOf [⟨PyData.keyHash w.params (Str.ofString "cursor"), .str (Str.ofString "cursor") q7, .ref c⟩, ⟨PyData.keyHash w.params (Str.ofString "name"), .str (Str.ofString "name") q8, .none⟩, ⟨PyData.keyHash w.params (Str.ofString "place"), .str (Str.ofString "place") q9, .int 0 qx⟩, ⟨PyData.keyHash w.params (Str.ofString "many"), .str (Str.ofString "many") qa, .int 0 qy⟩] 4) ∈ st) (m8 : (c, instObj 418 d) ∈ st) (v0 v1 v2 : Value) (ub0 : CTok) (n0 nN : Nat) : CallsTo w mean mg mb 14 930 ((d, curD w.params t1 T2 tt t2 ((11 : Nat) : Int) tk) :: (rows, listOf (#[v0, v1, v2]) (n0)) :: (nm, listOf (#[.str (Str.ofString "a") ub0]) (nN)) :: st) [.ref r, .ref c, .ref fr] fun base h₀ fr9 L m s Q E =>
    ∀ tk' ud0 ud1 z, (∀ q ∈ (d, curD w.params t1 T2 tt t2 ((11 : Nat) : Int) tk) :: (rows, listOf (#[v0, v1, v2]) (n0)) :: (nm, listOf (#[.str (Str.ofString "a") ub0]) (nN)) :: st, @LT.lt Nat _ q.1 z) → RetTo h₀ L m s Q .none ((z, tupO [.str (Str.ofString "end") ud0, .str (Str.ofString "a") ud1]) :: (d, curD w.params t1 T2 tt t2 ((15 : Nat) : Int) tk') :: (rows, listOf (#[v0, v1, v2, .ref z]) (n0+1)) :: (nm, listOf (#[]) (nN+1)) :: st) := by
  unfold CallsTo
  intros
  rename_i hret
  refine wpAny_call ?_
  k_dflt (refine' code_def ?k1 ?k2 ?k3 ?k4 ?k5 ?kA ?kF ?kK ?k6 ?k7 ?k8 ?k9 ?kB ?_ ?c2 ?c3 ?c4 ?c5; (case kA | kF => exact rfl); (case kK => first | exact rfl | assumption); (case k1 | k2 | k3 | k4 | k5 => k_asm); (case k6 | k7 => k_is); (case k8 => first | exact room_0 (by assumption) | ktr_room); (case k9 => first | exact BindsTo.of_eq rfl | exact binds_K (by k_in) rfl (by k_is) rfl rfl rfl); (case c5 => decide); (case kB => exact locs rfl); (case c2 | c3 | c4 => exact rfl); k_whole; intro g' L' h' FG' F' N' B' X' T'; (try dsimp only); (try k_fold))
  (k_steps; (try repeat' ((with_reducible refine Stop.by ?_); (first | ((with_reducible show wpAny _ _ (call (Value.ref 211) _) _ _ _); k_dflt (refine' CM.useI ?zs ?z1 ?z2 ?z3 ?z4 ?z5 ?zK ?zd ?zu ?zc ?zU ?ze ?_; (case z1 | z2 | z3 | z4 | z5 => k_asm); (case zK => first | exact rfl | assumption); (case zc => k_mem); (case zU => k_updF); (case ze => first | with_reducible exact rfl | with_reducible exact ca1 _ | with_reducible exact caN _ _ | exact ca0); (case zs => exact (end_T2 _ _ _ _)); (case zd => first | exact room_d (by assumption) (by exact rfl) | exact room_e (by assumption) (by exact rfl) | ktr_room); (case zu => first | exact room_u (by assumption) (by exact rfl) | exact room_v (by assumption) (by exact rfl) | exact room_x (by assumption) (by exact rfl) | exact room_w (by assumption) (by exact rfl) | exact room_y (by assumption) (by exact rfl) | ktr_units); (try dsimp only [RetV, len_0, len_1, len_2, len_3, len_4, len_5, len_6, len_7, len_8, len_9, len_10, len_11, len_12, len_13, len_14, len_15, len_16, len_17, len_18]); (with_reducible (repeat' (first | (refine And.intro ?_ ?_) | intro))); (all_goals (try dsimp only)); (all_goals (try (rename (∀ p : Addr × Obj, _ ∈ _ → @LT.lt Nat _ _ _) => zl1; k_lt zl1))); (all_goals (try contradiction)))) | (k_dflt (refine wpAny_call ?_; (refine' code_def ?k1 ?k2 ?k3 ?k4 ?k5 ?kA ?kF ?kK ?k6 ?k7 ?k8 ?k9 ?kB ?_ ?c2 ?c3 ?c4 ?c5; (case kA | kF => exact rfl); (case kK => first | exact rfl | assumption); (case k1 | k2 | k3 | k4 | k5 => k_asm); (case k6 | k7 => k_is); (case k8 => first | exact room_0 (by assumption) | ktr_room); (case k9 => first | exact BindsTo.of_eq rfl | exact binds_K (by k_in) rfl (by k_is) rfl rfl rfl); (case c5 => decide); (case kB => exact locs rfl); (case c2 | c3 | c4 => exact rfl); k_whole; intro g' L' h' FG' F' N' B' X' T'; (try dsimp only); (try k_fold))))); k_steps)))
  rename News _ _ _ _ => nn
  rename @LT.lt Nat _ _ _ ∧ _ => la
  exact hret _ _ _ _ (fun p hp => kst_ltOf (l := (_, _) :: (_, _) :: (_, _) :: _) la p hp) _ _ (by assumption) nn

set_option maxHeartbeats 1000000 in
theorem between_15 (w mean mg mb) (en gr r rD e eD rows c d fr fD fs nm : Addr) (q0 q1 q2 q3 q4 q5 q6 q7 q8 q9 qa qx qy t1 tt t2 tk : CTok) (st : List (Addr × Obj)) (hs : OwnOff st [d, rows, nm]) (l0 : @LT.lt Nat _ rows d) (l1 : @LT.lt Nat _ d nm) (m1 : (r, instObj 961 rD) ∈ st) (m2 : (rD, dictOf [⟨PyData.keyHash w.params (Str.ofString "entities"), .str (Str.ofString "entities") q0, .ref en⟩, ⟨PyData.keyHash w.params (Str.ofString "on_doctype"), .str (Str.ofString "on_doctype") q1, .none⟩, ⟨PyData.keyHash w.params (Str.ofString "found"), .str (Str.ofString "found") q2, .ref e⟩, ⟨PyData.keyHash w.params (Str.ofString "frames"), .str (Str.ofString "frames") q3, .ref fs⟩, ⟨PyData.keyHash w.params (Str.ofString "growth"), .str (Str.ofString "growth") q4, .ref gr⟩, ⟨PyData.keyHash w.params (Str.ofString "names"), .str (Str.ofString "names") q5, .ref nm⟩] 6) ∈ st) (m3 : (e, instObj 820 eD) ∈ st) (m4 : (eD, dictOf [⟨PyData.keyHash w.params (Str.ofString "rows"), .str (Str.ofString "rows") q6, .ref rows⟩] 1) ∈ st) (m5 : (fs, listOf #[.ref fr] 0) ∈ st) (m6 : (fr, instObj 841 fD) ∈ st) (m7 : (fD, dictOf [⟨PyData.keyHash w.params (Str.ofString "cursor"), .str (Str.ofString "cursor") q7, .ref c⟩, ⟨PyData.keyHash w.params (Str.ofString "name"), .str (Str.ofString "name") q8, .none⟩, ⟨PyData.keyHash w.params (Str.ofString "place"), .str (Str.ofString "place") q9, .int 0 qx⟩, ⟨PyData.keyHash w.params (Str.ofString "many"), .str (Str.ofString "many") qa, .int 0 qy⟩] 4) ∈ st) (m8 : (c, instObj 418 d) ∈ st) (R9 N9 : Array Value) (nR nN : Nat) : CallsTo w mean mg mb 6 881 ((d, curD w.params t1 T2 tt t2 ((15 : Nat) : Int) tk) :: (rows, listOf (R9) (nR)) :: (nm, listOf (N9) (nN)) :: st) [.ref r, .ref c] fun base h₀ fr9 L m s Q E =>
    ∀ tk', RetTo h₀ L m s Q .none ((d, curD w.params t1 T2 tt t2 ((15 : Nat) : Int) tk') :: (rows, listOf (R9) (nR)) :: (nm, listOf (N9) (nN)) :: st) := by
  have sp15 : Sps T2 15 15 := ⟨by (first | lia | omega), by decide +kernel, fun i a b => absurd a (by (first | lia | omega)), fun h => absurd h (by decide +kernel)⟩
  unfold CallsTo
  intros
  rename_i hret
  refine wpAny_call ?_
  k_dflt (refine' code_def ?k1 ?k2 ?k3 ?k4 ?k5 ?kA ?kF ?kK ?k6 ?k7 ?k8 ?k9 ?kB ?_ ?c2 ?c3 ?c4 ?c5; (case kA | kF => exact rfl); (case kK => first | exact rfl | assumption); (case k1 | k2 | k3 | k4 | k5 => k_asm); (case k6 | k7 => k_is); (case k8 => first | exact room_0 (by assumption) | ktr_room); (case k9 => first | exact BindsTo.of_eq rfl | exact binds_K (by k_in) rfl (by k_is) rfl rfl rfl); (case c5 => decide); (case kB => exact locs rfl); (case c2 | c3 | c4 => exact rfl); k_whole; intro g' L' h' FG' F' N' B' X' T'; (try dsimp only); (try k_fold))
  (k_steps; (try repeat' ((with_reducible refine Stop.by ?_); ((first | (with_reducible show wpAny _ _ (call (Value.ref 211) _) _ _ _) | (with_reducible show wpAny _ _ (call (Value.ref 380) _) _ _ _) | (with_reducible show wpAny _ _ (call (Value.ref 322) _) _ _ _) | (with_reducible show wpAny _ _ (call (Value.ref 359) _) _ _ _) | (with_reducible show wpAny _ _ (call (Value.ref 401) _) _ _ _) | (with_reducible show wpAny _ _ (call (Value.ref 366) _) _ _ _) | (with_reducible show wpAny _ _ (call (Value.ref 225) _) _ _ _) | (with_reducible show wpAny _ _ (call (Value.ref 387) _) _ _ _) | (with_reducible show wpAny _ _ (call (Value.ref 337) _) _ _ _)); k_dflt (refine' CM.useI ?zs ?z1 ?z2 ?z3 ?z4 ?z5 ?zK ?zd ?zu ?zc ?zU ?ze ?_; (case z1 | z2 | z3 | z4 | z5 => k_asm); (case zK => first | exact rfl | assumption); (case zc => k_mem); (case zU => k_updF); (case ze => first | with_reducible exact rfl | with_reducible exact ca1 _ | with_reducible exact caN _ _ | exact ca0); (case zs => first | exact (end_T2 _ _ _ _) | exact (ahead_x _ _ _ _ _) | exact (over_yes _ _ _ _ _ _ (by walk_at "zz side") (by walk_at "zz side")) | exact (over_no _ _ _ _ _ _ (by walk_at "zz side") (by walk_at "zz side")) | exact (skip_yes _ _ _ _ _ _ (by walk_at "zz side") (by walk_at "zz side") _ _ (by walk_at "zz side") (by walk_at "zz side")) | exact (skip_no _ _ _ _ _ _ (by walk_at "zz side") (by walk_at "zz side") _ _ (by walk_at "zz side") (by walk_at "zz side")) | exact (name_a8 _ _ _ _) | exact (expect_yes _ _ _ _ _ _ (by walk_at "zz side") (by walk_at "zz side") _ _ (by walk_at "zz side") (by walk_at "zz side")) | exact (instr_T2 _ _ _ _) | exact (spaces_j _ _ _ _ _ _ _ (by walk_at "zz side") (by walk_at "zz side")) | exact (looks_yes _ _ _ _ _ _ (by walk_at "zz side") (by walk_at "zz side") _ _ (by walk_at "zz side")) | exact (looks_no _ _ _ _ _ _ (by walk_at "zz side") (by walk_at "zz side") _ _ (by walk_at "zz side"))); (case zd => first | exact room_d (by assumption) (by exact rfl) | exact room_e (by assumption) (by exact rfl) | ktr_room); (case zu => first | exact room_u (by assumption) (by exact rfl) | exact room_v (by assumption) (by exact rfl) | exact room_x (by assumption) (by exact rfl) | exact room_w (by assumption) (by exact rfl) | exact room_y (by assumption) (by exact rfl) | ktr_units); (try dsimp only [RetV, len_0, len_1, len_2, len_3, len_4, len_5, len_6, len_7, len_8, len_9, len_10, len_11, len_12, len_13, len_14, len_15, len_16, len_17, len_18]); (with_reducible (repeat' (first | (refine And.intro ?_ ?_) | intro))); (all_goals (try dsimp only)); (all_goals (try (rename (∀ p : Addr × Obj, _ ∈ _ → @LT.lt Nat _ _ _) => zl1; k_lt zl1))); (all_goals (try contradiction)))); k_steps)))
  rename News _ _ _ _ => nn
  exact hret _ _ _ (by assumption) nn
end Mine
end -- R
section -- Re
namespace Mine
set_option maxHeartbeats 1000000 in
theorem step_10 (w mean mg mb) (en gr r rD e eD rows c d fr fD fs nm : Addr) (q0 q1 q2 q3 q4 q5 q6 q7 q8 q9 qa qx qy t1 tt t2 tk : CTok) (st : List (Addr × Obj)) (hs : OwnOff st [d, rows, nm]) (l0 : @LT.lt Nat _ rows d) (l1 : @LT.lt Nat _ d nm) (m1 : (r, instObj 961 rD) ∈ st) (m2 : (rD, dictOf [⟨PyData.keyHash w.params (Str.ofString "entities"), .str (Str.ofString "entities") q0, .ref en⟩, ⟨PyData.keyHash w.params (Str.ofString "on_doctype"), .str (Str.ofString "on_doctype") q1, .none⟩, ⟨PyData.keyHash w.params (Str.ofString "found"), .str (Str.ofString "found") q2, .ref e⟩, ⟨PyData.keyHash w.params (Str.ofString "frames"), .str (Str.ofString "frames") q3, .ref fs⟩, ⟨PyData.keyHash w.params (Str.ofString "growth"), .str (Str.ofString "growth") q4, .ref gr⟩, ⟨PyData.keyHash w.params (Str.ofString "names"), .str (Str.ofString "names") q5, .ref nm⟩] 6) ∈ st) (m3 : (e, instObj 820 eD) ∈ st) (m4 : (eD, dictOf [⟨PyData.keyHash w.params (Str.ofString "rows"), .str (Str.ofString "rows") q6, .ref rows⟩] 1) ∈ st) (m5 : (fs, listOf #[.ref fr] 0) ∈ st) (m6 : (fr, instObj 841 fD) ∈ st) (m7 : (fD, dictOf [⟨PyData.keyHash w.params (Str.ofString "cursor"), .str (Str.ofString "cursor") q7, .ref c⟩, ⟨PyData.keyHash w.params (Str.ofString "name"), .str (Str.ofString "name") q8, .none⟩, ⟨PyData.keyHash w.params (Str.ofString "place"), .str (Str.ofString "place") q9, .int 0 qx⟩, ⟨PyData.keyHash w.params (Str.ofString "many"), .str (Str.ofString "many") qa, .int 0 qy⟩] 4) ∈ st) (m8 : (c, instObj 418 d) ∈ st) (a0 at_ b : Addr) (ua0 ua1 ua2 ub0 ub1 : CTok) (n0 nN : Nat) (N9 : Array Value) (m9 : (a0, tupO [.str (Str.ofString "instruction") ua0, .str (Str.ofString "p") ua1, .str (Str.ofString "q") ua2]) ∈ st) (m10 : (at_, tupO []) ∈ st) (m11 : (b, tupO [.str (Str.ofString "start") ub0, .str (Str.ofString "a") ub1, .ref at_]) ∈ st) : CallsTo w mean mg mb 18 902 ((d, curD w.params t1 T2 tt t2 ((10 : Nat) : Int) tk) :: (rows, listOf (#[.ref a0, .ref b]) (n0)) :: (nm, listOf (N9) (nN)) :: st) [.ref r] fun base h₀ fr9 L m s Q E =>
    ∀ tk' uc0 uc1 a, (∀ q ∈ (d, curD w.params t1 T2 tt t2 ((10 : Nat) : Int) tk) :: (rows, listOf (#[.ref a0, .ref b]) (n0)) :: (nm, listOf (N9) (nN)) :: st, @LT.lt Nat _ q.1 a) → RetTo h₀ L m s Q .none ((a, tupO [.str (Str.ofString "text") uc0, .str (Str.ofString "x") uc1]) :: (d, curD w.params t1 T2 tt t2 ((11 : Nat) : Int) tk') :: (rows, listOf (#[.ref a0, .ref b, .ref a]) (n0+1)) :: (nm, listOf (N9) (nN)) :: st) := by
  unfold CallsTo
  intros
  rename_i hret
  refine wpAny_call ?_
  k_dflt (refine' code_def ?k1 ?k2 ?k3 ?k4 ?k5 ?kA ?kF ?kK ?k6 ?k7 ?k8 ?k9 ?kB ?_ ?c2 ?c3 ?c4 ?c5; (case kA | kF => exact rfl); (case kK => first | exact rfl | assumption); (case k1 | k2 | k3 | k4 | k5 => k_asm); (case k6 | k7 => k_is); (case k8 => first | exact room_0 (by assumption) | ktr_room); (case k9 => first | exact BindsTo.of_eq rfl | exact binds_K (by k_in) rfl (by k_is) rfl rfl rfl); (case c5 => decide); (case kB => exact locs rfl); (case c2 | c3 | c4 => exact rfl); k_whole; intro g' L' h' FG' F' N' B' X' T'; (try dsimp only); (try k_fold))
  (k_steps; (try repeat' ((with_reducible refine Stop.by ?_); (first | ((first | (with_reducible show wpAny _ _ (call (Value.ref 930) _) _ _ _) | (with_reducible show wpAny _ _ (call (Value.ref 916) _) _ _ _)); k_dflt (refine' CallsTo.use ?zs ?z1 ?z2 ?z3 ?z4 ?z5 ?zK ?zd ?zu ?_; (case z1 | z2 | z3 | z4 | z5 => k_asm); (case zK => first | exact rfl | assumption); (case zs => first | exact (end_11 _ _ _ _ _ _ _ _ _ _ _ _ _ _ _ _ _ _ _ _ _ _ _ _ _ _ _ _ _ _ _ _ _ _ _ (by assumption) (by assumption) (by assumption) (by assumption) (by assumption) (by assumption) (by assumption) (by assumption) (by assumption) (by assumption) (by assumption) _ _ _ _ _ _) | exact (plain_10 _ _ _ _ _ _ _ _ _ _ _ _ _ _ _ _ _ _ _ _ _ _ _ _ _ _ _ _ _ _ _ _ _ _ _ (by assumption) (by assumption) (by assumption) (by assumption) (by assumption) (by assumption) (by assumption) (by assumption) (by assumption) (by assumption) (by assumption) _ _ _ _ _ _ _ _ _ _ _ (by first | assumption | k_mem) (by first | assumption | k_mem) (by first | assumption | k_mem))); (case zd => first | exact room_d (by assumption) (by exact rfl) | exact room_e (by assumption) (by exact rfl) | ktr_room); (case zu => first | exact room_u (by assumption) (by exact rfl) | exact room_v (by assumption) (by exact rfl) | exact room_x (by assumption) (by exact rfl) | exact room_w (by assumption) (by exact rfl) | exact room_y (by assumption) (by exact rfl) | ktr_units); (try dsimp only [RetV, len_0, len_1, len_2, len_3, len_4, len_5, len_6, len_7, len_8, len_9, len_10, len_11, len_12, len_13, len_14, len_15, len_16, len_17, len_18]); (with_reducible (repeat' (first | (refine And.intro ?_ ?_) | intro))); (all_goals (try dsimp only)); (all_goals (try (rename (∀ p : Addr × Obj, _ ∈ _ → @LT.lt Nat _ _ _) => zl1; k_lt zl1))); (all_goals (try contradiction)))) | ((first | (with_reducible show wpAny _ _ (call (Value.ref 211) _) _ _ _) | (with_reducible show wpAny _ _ (call (Value.ref 380) _) _ _ _) | (with_reducible show wpAny _ _ (call (Value.ref 322) _) _ _ _) | (with_reducible show wpAny _ _ (call (Value.ref 359) _) _ _ _) | (with_reducible show wpAny _ _ (call (Value.ref 401) _) _ _ _) | (with_reducible show wpAny _ _ (call (Value.ref 366) _) _ _ _) | (with_reducible show wpAny _ _ (call (Value.ref 225) _) _ _ _) | (with_reducible show wpAny _ _ (call (Value.ref 387) _) _ _ _) | (with_reducible show wpAny _ _ (call (Value.ref 337) _) _ _ _)); k_dflt (refine' CM.useI ?zs ?z1 ?z2 ?z3 ?z4 ?z5 ?zK ?zd ?zu ?zc ?zU ?ze ?_; (case z1 | z2 | z3 | z4 | z5 => k_asm); (case zK => first | exact rfl | assumption); (case zc => k_mem); (case zU => k_updF); (case ze => first | with_reducible exact rfl | with_reducible exact ca1 _ | with_reducible exact caN _ _ | exact ca0); (case zs => first | exact (end_T2 _ _ _ _) | exact (ahead_x _ _ _ _ _) | exact (over_yes _ _ _ _ _ _ (by walk_at "zz side") (by walk_at "zz side")) | exact (over_no _ _ _ _ _ _ (by walk_at "zz side") (by walk_at "zz side")) | exact (skip_yes _ _ _ _ _ _ (by walk_at "zz side") (by walk_at "zz side") _ _ (by walk_at "zz side") (by walk_at "zz side")) | exact (skip_no _ _ _ _ _ _ (by walk_at "zz side") (by walk_at "zz side") _ _ (by walk_at "zz side") (by walk_at "zz side")) | exact (name_a8 _ _ _ _) | exact (expect_yes _ _ _ _ _ _ (by walk_at "zz side") (by walk_at "zz side") _ _ (by walk_at "zz side") (by walk_at "zz side")) | exact (instr_T2 _ _ _ _) | exact (spaces_j _ _ _ _ _ _ _ (by walk_at "zz side") (by walk_at "zz side")) | exact (looks_yes _ _ _ _ _ _ (by walk_at "zz side") (by walk_at "zz side") _ _ (by walk_at "zz side")) | exact (looks_no _ _ _ _ _ _ (by walk_at "zz side") (by walk_at "zz side") _ _ (by walk_at "zz side"))); (case zd => first | exact room_d (by assumption) (by exact rfl) | exact room_e (by assumption) (by exact rfl) | ktr_room); (case zu => first | exact room_u (by assumption) (by exact rfl) | exact room_v (by assumption) (by exact rfl) | exact room_x (by assumption) (by exact rfl) | exact room_w (by assumption) (by exact rfl) | exact room_y (by assumption) (by exact rfl) | ktr_units); (try dsimp only [RetV, len_0, len_1, len_2, len_3, len_4, len_5, len_6, len_7, len_8, len_9, len_10, len_11, len_12, len_13, len_14, len_15, len_16, len_17, len_18]); (with_reducible (repeat' (first | (refine And.intro ?_ ?_) | intro))); (all_goals (try dsimp only)); (all_goals (try (rename (∀ p : Addr × Obj, _ ∈ _ → @LT.lt Nat _ _ _) => zl1; k_lt zl1))); (all_goals (try contradiction)))) | (k_dflt (refine wpAny_call ?_; (refine' code_def ?k1 ?k2 ?k3 ?k4 ?k5 ?kA ?kF ?kK ?k6 ?k7 ?k8 ?k9 ?kB ?_ ?c2 ?c3 ?c4 ?c5; (case kA | kF => exact rfl); (case kK => first | exact rfl | assumption); (case k1 | k2 | k3 | k4 | k5 => k_asm); (case k6 | k7 => k_is); (case k8 => first | exact room_0 (by assumption) | ktr_room); (case k9 => first | exact BindsTo.of_eq rfl | exact binds_K (by k_in) rfl (by k_is) rfl rfl rfl); (case c5 => decide); (case kB => exact locs rfl); (case c2 | c3 | c4 => exact rfl); k_whole; intro g' L' h' FG' F' N' B' X' T'; (try dsimp only); (try k_fold))))); k_steps)))
  rename News _ _ _ _ => nn
  rename @LT.lt Nat _ _ _ ∧ _ => la
  exact hret _ _ _ _ (fun p hp => kst_ltOf (l := (_, _) :: (_, _) :: (_, _) :: _) la p hp) _ _ (by assumption) nn
set_option maxHeartbeats 1000000 in
theorem step_11 (w mean mg mb) (en gr r rD e eD rows c d fr fD fs nm : Addr) (q0 q1 q2 q3 q4 q5 q6 q7 q8 q9 qa qx qy t1 tt t2 tk : CTok) (st : List (Addr × Obj)) (hs : OwnOff st [d, rows, nm]) (l0 : @LT.lt Nat _ rows d) (l1 : @LT.lt Nat _ d nm) (m1 : (r, instObj 961 rD) ∈ st) (m2 : (rD, dictOf [⟨PyData.keyHash w.params (Str.ofString "entities"), .str (Str.ofString "entities") q0, .ref en⟩, ⟨PyData.keyHash w.params (Str.ofString "on_doctype"), .str (Str.ofString "on_doctype") q1, .none⟩, ⟨PyData.keyHash w.params (Str.ofString "found"), .str (Str.ofString "found") q2, .ref e⟩, ⟨PyData.keyHash w.params (Str.ofString "frames"), .str (Str.ofString "frames") q3, .ref fs⟩, ⟨PyData.keyHash w.params (Str.ofString "growth"), .str (Str.ofString "growth") q4, .ref gr⟩, ⟨PyData.keyHash w.params (Str.ofString "names"), .str (Str.ofString "names") q5, .ref nm⟩] 6) ∈ st) (m3 : (e, instObj 820 eD) ∈ st) (m4 : (eD, dictOf [⟨PyData.keyHash w.params (Str.ofString "rows"), .str (Str.ofString "rows") q6, .ref rows⟩] 1) ∈ st) (m5 : (fs, listOf #[.ref fr] 0) ∈ st) (m6 : (fr, instObj 841 fD) ∈ st) (m7 : (fD, dictOf [⟨PyData.keyHash w.params (Str.ofString "cursor"), .str (Str.ofString "cursor") q7, .ref c⟩, ⟨PyData.keyHash w.params (Str.ofString "name"), .str (Str.ofString "name") q8, .none⟩, ⟨PyData.keyHash w.params (Str.ofString "place"), .str (Str.ofString "place") q9, .int 0 qx⟩, ⟨PyData.keyHash w.params (Str.ofString "many"), .str (Str.ofString "many") qa, .int 0 qy⟩] 4) ∈ st) (m8 : (c, instObj 418 d) ∈ st) (v0 v1 v2 : Value) (ub0 : CTok) (n0 nN : Nat) : CallsTo w mean mg mb 18 902 ((d, curD w.params t1 T2 tt t2 ((11 : Nat) : Int) tk) :: (rows, listOf (#[v0, v1, v2]) (n0)) :: (nm, listOf (#[.str (Str.ofString "a") ub0]) (nN)) :: st) [.ref r] fun base h₀ fr9 L m s Q E =>
    ∀ tk' ud0 ud1 z, (∀ q ∈ (d, curD w.params t1 T2 tt t2 ((11 : Nat) : Int) tk) :: (rows, listOf (#[v0, v1, v2]) (n0)) :: (nm, listOf (#[.str (Str.ofString "a") ub0]) (nN)) :: st, @LT.lt Nat _ q.1 z) → RetTo h₀ L m s Q .none ((z, tupO [.str (Str.ofString "end") ud0, .str (Str.ofString "a") ud1]) :: (d, curD w.params t1 T2 tt t2 ((15 : Nat) : Int) tk') :: (rows, listOf (#[v0, v1, v2, .ref z]) (n0+1)) :: (nm, listOf (#[]) (nN+1)) :: st) := by
  unfold CallsTo
  intros
  rename_i hret
  refine wpAny_call ?_
  k_dflt (refine' code_def ?k1 ?k2 ?k3 ?k4 ?k5 ?kA ?kF ?kK ?k6 ?k7 ?k8 ?k9 ?kB ?_ ?c2 ?c3 ?c4 ?c5; (case kA | kF => exact rfl); (case kK => first | exact rfl | assumption); (case k1 | k2 | k3 | k4 | k5 => k_asm); (case k6 | k7 => k_is); (case k8 => first | exact room_0 (by assumption) | ktr_room); (case k9 => first | exact BindsTo.of_eq rfl | exact binds_K (by k_in) rfl (by k_is) rfl rfl rfl); (case c5 => decide); (case kB => exact locs rfl); (case c2 | c3 | c4 => exact rfl); k_whole; intro g' L' h' FG' F' N' B' X' T'; (try dsimp only); (try k_fold))
  (k_steps; (try repeat' ((with_reducible refine Stop.by ?_); (first | ((with_reducible show wpAny _ _ (call (Value.ref 930) _) _ _ _); k_dflt (refine' CallsTo.use ?zs ?z1 ?z2 ?z3 ?z4 ?z5 ?zK ?zd ?zu ?_; (case z1 | z2 | z3 | z4 | z5 => k_asm); (case zK => first | exact rfl | assumption); (case zs => exact (end_11 _ _ _ _ _ _ _ _ _ _ _ _ _ _ _ _ _ _ _ _ _ _ _ _ _ _ _ _ _ _ _ _ _ _ _ (by assumption) (by assumption) (by assumption) (by assumption) (by assumption) (by assumption) (by assumption) (by assumption) (by assumption) (by assumption) (by assumption) _ _ _ _ _ _)); (case zd => first | exact room_d (by assumption) (by exact rfl) | exact room_e (by assumption) (by exact rfl) | ktr_room); (case zu => first | exact room_u (by assumption) (by exact rfl) | exact room_v (by assumption) (by exact rfl) | exact room_x (by assumption) (by exact rfl) | exact room_w (by assumption) (by exact rfl) | exact room_y (by assumption) (by exact rfl) | ktr_units); (try dsimp only [RetV, len_0, len_1, len_2, len_3, len_4, len_5, len_6, len_7, len_8, len_9, len_10, len_11, len_12, len_13, len_14, len_15, len_16, len_17, len_18]); (with_reducible (repeat' (first | (refine And.intro ?_ ?_) | intro))); (all_goals (try dsimp only)); (all_goals (try (rename (∀ p : Addr × Obj, _ ∈ _ → @LT.lt Nat _ _ _) => zl1; k_lt zl1))); (all_goals (try contradiction)))) | ((first | (with_reducible show wpAny _ _ (call (Value.ref 211) _) _ _ _) | (with_reducible show wpAny _ _ (call (Value.ref 380) _) _ _ _) | (with_reducible show wpAny _ _ (call (Value.ref 322) _) _ _ _) | (with_reducible show wpAny _ _ (call (Value.ref 359) _) _ _ _) | (with_reducible show wpAny _ _ (call (Value.ref 401) _) _ _ _) | (with_reducible show wpAny _ _ (call (Value.ref 366) _) _ _ _) | (with_reducible show wpAny _ _ (call (Value.ref 225) _) _ _ _) | (with_reducible show wpAny _ _ (call (Value.ref 387) _) _ _ _) | (with_reducible show wpAny _ _ (call (Value.ref 337) _) _ _ _)); k_dflt (refine' CM.useI ?zs ?z1 ?z2 ?z3 ?z4 ?z5 ?zK ?zd ?zu ?zc ?zU ?ze ?_; (case z1 | z2 | z3 | z4 | z5 => k_asm); (case zK => first | exact rfl | assumption); (case zc => k_mem); (case zU => k_updF); (case ze => first | with_reducible exact rfl | with_reducible exact ca1 _ | with_reducible exact caN _ _ | exact ca0); (case zs => first | exact (end_T2 _ _ _ _) | exact (ahead_x _ _ _ _ _) | exact (over_yes _ _ _ _ _ _ (by walk_at "zz side") (by walk_at "zz side")) | exact (over_no _ _ _ _ _ _ (by walk_at "zz side") (by walk_at "zz side")) | exact (skip_yes _ _ _ _ _ _ (by walk_at "zz side") (by walk_at "zz side") _ _ (by walk_at "zz side") (by walk_at "zz side")) | exact (skip_no _ _ _ _ _ _ (by walk_at "zz side") (by walk_at "zz side") _ _ (by walk_at "zz side") (by walk_at "zz side")) | exact (name_a8 _ _ _ _) | exact (expect_yes _ _ _ _ _ _ (by walk_at "zz side") (by walk_at "zz side") _ _ (by walk_at "zz side") (by walk_at "zz side")) | exact (instr_T2 _ _ _ _) | exact (spaces_j _ _ _ _ _ _ _ (by walk_at "zz side") (by walk_at "zz side")) | exact (looks_yes _ _ _ _ _ _ (by walk_at "zz side") (by walk_at "zz side") _ _ (by walk_at "zz side")) | exact (looks_no _ _ _ _ _ _ (by walk_at "zz side") (by walk_at "zz side") _ _ (by walk_at "zz side"))); (case zd => first | exact room_d (by assumption) (by exact rfl) | exact room_e (by assumption) (by exact rfl) | ktr_room); (case zu => first | exact room_u (by assumption) (by exact rfl) | exact room_v (by assumption) (by exact rfl) | exact room_x (by assumption) (by exact rfl) | exact room_w (by assumption) (by exact rfl) | exact room_y (by assumption) (by exact rfl) | ktr_units); (try dsimp only [RetV, len_0, len_1, len_2, len_3, len_4, len_5, len_6, len_7, len_8, len_9, len_10, len_11, len_12, len_13, len_14, len_15, len_16, len_17, len_18]); (with_reducible (repeat' (first | (refine And.intro ?_ ?_) | intro))); (all_goals (try dsimp only)); (all_goals (try (rename (∀ p : Addr × Obj, _ ∈ _ → @LT.lt Nat _ _ _) => zl1; k_lt zl1))); (all_goals (try contradiction)))) | (k_dflt (refine wpAny_call ?_; (refine' code_def ?k1 ?k2 ?k3 ?k4 ?k5 ?kA ?kF ?kK ?k6 ?k7 ?k8 ?k9 ?kB ?_ ?c2 ?c3 ?c4 ?c5; (case kA | kF => exact rfl); (case kK => first | exact rfl | assumption); (case k1 | k2 | k3 | k4 | k5 => k_asm); (case k6 | k7 => k_is); (case k8 => first | exact room_0 (by assumption) | ktr_room); (case k9 => first | exact BindsTo.of_eq rfl | exact binds_K (by k_in) rfl (by k_is) rfl rfl rfl); (case c5 => decide); (case kB => exact locs rfl); (case c2 | c3 | c4 => exact rfl); k_whole; intro g' L' h' FG' F' N' B' X' T'; (try dsimp only); (try k_fold))))); k_steps)))
  rename News _ _ _ _ => nn
  rename @LT.lt Nat _ _ _ ∧ _ => la
  exact hret _ _ _ _ (fun p hp => kst_ltOf (l := (_, _) :: (_, _) :: (_, _) :: _) la p hp) _ _ (by assumption) nn
end Mine
end -- Re
section -- Rf
namespace Mine
theorem news_q2 {h₀ h : Heap} {L : Addr} {y x1 x2 c1 c2 c3 : Addr × Obj} {t : List (Addr × Obj)} (N : News h₀ L h (y :: x1 :: x2 :: c1 :: c2 :: c3 :: t)) : News h₀ L h (c1 :: c2 :: c3 :: x1 :: x2 :: t) :=
  fun p hp => N p (sub_cons (.tail _ <| .tail _ <| .tail _ <| .head _) (sub_cons (.tail _ <| .tail _ <| .tail _ <| .tail _ <| .head _) (sub_cons (.tail _ <| .tail _ <| .tail _ <| .tail _ <| .tail _ <| .head _) (sub_cons (.tail _ <| .head _) (sub_cons (.tail _ <| .tail _ <| .head _) (fun p hp => .tail _ <| .tail _ <| .tail _ <| .tail _ <| .tail _ <| .tail _ <| hp))))) p hp)
theorem news_q1 {h₀ h : Heap} {L : Addr} {y x1 c1 c2 c3 : Addr × Obj} {t : List (Addr × Obj)} (N : News h₀ L h (y :: x1 :: c1 :: c2 :: c3 :: t)) : News h₀ L h (c1 :: c2 :: c3 :: x1 :: t) :=
  fun p hp => N p (sub_cons (.tail _ <| .tail _ <| .head _) (sub_cons (.tail _ <| .tail _ <| .tail _ <| .head _) (sub_cons (.tail _ <| .tail _ <| .tail _ <| .tail _ <| .head _) (sub_cons (.tail _ <| .head _) (fun p hp => .tail _ <| .tail _ <| .tail _ <| .tail _ <| .tail _ <| hp)))) p hp)
theorem off_one {x : Addr × Obj} {t : List (Addr × Obj)} {d e f : Addr} (h : OwnOff t [d, e, f]) (h1 : @Ne Nat x.1 d) (h2 : @Ne Nat x.1 e) (h3 : @Ne Nat x.1 f) : OwnOff (x :: t) [d, e, f] :=
  fun p hp q hq => (List.mem_cons.mp hp).elim (fun z => z ▸ (List.mem_cons.mp hq).elim (fun e => e ▸ h1) fun hq => (List.mem_cons.mp hq).elim (fun e => e ▸ h2) fun hq => (List.mem_singleton.mp hq) ▸ h3) fun hp => h p hp q hq
theorem off_q2 {h₀ h : Heap} {L : Addr} {x1 x2 c1 c2 c3 : Addr × Obj} {t : List (Addr × Obj)} {d e f : Addr} (_N : News h₀ L h (c1 :: c2 :: c3 :: x1 :: x2 :: t)) (h : OwnOff t [d, e, f])
    (b1 : @Ne Nat x1.1 d) (b2 : @Ne Nat x1.1 e) (b3 : @Ne Nat x1.1 f) (e1 : @Ne Nat x2.1 d) (e2 : @Ne Nat x2.1 e) (e3 : @Ne Nat x2.1 f) : OwnOff (x1 :: x2 :: t) [d, e, f] := off_one (off_one h e1 e2 e3) b1 b2 b3
theorem off_q1 {h₀ h : Heap} {L : Addr} {x1 c1 c2 c3 : Addr × Obj} {t : List (Addr × Obj)} {d e f : Addr} (_N : News h₀ L h (c1 :: c2 :: c3 :: x1 :: t)) (h : OwnOff t [d, e, f])
    (b1 : @Ne Nat x1.1 d) (b2 : @Ne Nat x1.1 e) (b3 : @Ne Nat x1.1 f) : OwnOff (x1 :: t) [d, e, f] := off_one h b1 b2 b3
theorem mem_q2 {h₀ h : Heap} {L : Addr} {x1 x2 c1 c2 c3 p : Addr × Obj} {t : List (Addr × Obj)} (_N : News h₀ L h (c1 :: c2 :: c3 :: x1 :: x2 :: t)) (h : p ∈ t) : p ∈ x1 :: x2 :: t := .tail _ (.tail _ h)
theorem mem_q1 {h₀ h : Heap} {L : Addr} {x1 c1 c2 c3 p : Addr × Obj} {t : List (Addr × Obj)} (_N : News h₀ L h (c1 :: c2 :: c3 :: x1 :: t)) (h : p ∈ t) : p ∈ x1 :: t := .tail _ h
theorem mem_h1 {h₀ h : Heap} {L : Addr} {x1 x2 c1 c2 c3 : Addr × Obj} {t : List (Addr × Obj)} (_N : News h₀ L h (c1 :: c2 :: c3 :: x1 :: x2 :: t)) : x1 ∈ x1 :: x2 :: t := .head _
theorem mem_h2 {h₀ h : Heap} {L : Addr} {x1 x2 c1 c2 c3 : Addr × Obj} {t : List (Addr × Obj)} (_N : News h₀ L h (c1 :: c2 :: c3 :: x1 :: x2 :: t)) : x2 ∈ x1 :: x2 :: t := .tail _ (.head _)
set_option maxHeartbeats 1000000 in
theorem rest_7 (w mean mg mb) (en gr r rD e eD rows c d fr fD fs nm : Addr) (q0 q1 q2 q3 q4 q5 q6 q7 q8 q9 qa qx qy t1 tt t2 tk : CTok) (st : List (Addr × Obj)) (hs : OwnOff st [d, rows, nm]) (l0 : @LT.lt Nat _ rows d) (l1 : @LT.lt Nat _ d nm) (m1 : (r, instObj 961 rD) ∈ st) (m2 : (rD, dictOf [⟨PyData.keyHash w.params (Str.ofString "entities"), .str (Str.ofString "entities") q0, .ref en⟩, ⟨PyData.keyHash w.params (Str.ofString "on_doctype"), .str (Str.ofString "on_doctype") q1, .none⟩, ⟨PyData.keyHash w.params (Str.ofString "found"), .str (Str.ofString "found") q2, .ref e⟩, ⟨PyData.keyHash w.params (Str.ofString "frames"), .str (Str.ofString "frames") q3, .ref fs⟩, ⟨PyData.keyHash w.params (Str.ofString "growth"), .str (Str.ofString "growth") q4, .ref gr⟩, ⟨PyData.keyHash w.params (Str.ofString "names"), .str (Str.ofString "names") q5, .ref nm⟩] 6) ∈ st) (m3 : (e, instObj 820 eD) ∈ st) (m4 : (eD, dictOf [⟨PyData.keyHash w.params (Str.ofString "rows"), .str (Str.ofString "rows") q6, .ref rows⟩] 1) ∈ st) (m5 : (fs, listOf #[.ref fr] 0) ∈ st) (m6 : (fr, instObj 841 fD) ∈ st) (m7 : (fD, dictOf [⟨PyData.keyHash w.params (Str.ofString "cursor"), .str (Str.ofString "cursor") q7, .ref c⟩, ⟨PyData.keyHash w.params (Str.ofString "name"), .str (Str.ofString "name") q8, .none⟩, ⟨PyData.keyHash w.params (Str.ofString "place"), .str (Str.ofString "place") q9, .int 0 qx⟩, ⟨PyData.keyHash w.params (Str.ofString "many"), .str (Str.ofString "many") qa, .int 0 qy⟩] 4) ∈ st) (m8 : (c, instObj 418 d) ∈ st) (a0 : Addr) (ua0 ua1 ua2 : CTok) (n0 : Nat) (m9 : (a0, tupO [.str (Str.ofString "instruction") ua0, .str (Str.ofString "p") ua1, .str (Str.ofString "q") ua2]) ∈ st) : CallsTo w mean mg mb 24 895 ((d, curD w.params t1 T2 tt t2 ((7 : Nat) : Int) tk) :: (rows, listOf (#[.ref a0]) (n0)) :: (nm, listOf (#[]) (0)) :: st) [.ref r] fun base h₀ fr9 L m s Q E =>
    ∀ tk' ub0 ub1 uc0 uc1 ud0 ud1 at_ b a z, RetTo h₀ L m s Q (.ref rows) ((d, curD w.params t1 T2 tt t2 ((15 : Nat) : Int) tk') :: (rows, listOf (#[.ref a0, .ref b, .ref a, .ref z]) (n0+1+1+1)) :: (nm, listOf (#[]) (1+1)) :: (z, tupO [.str (Str.ofString "end") ud0, .str (Str.ofString "a") ud1]) :: (a, tupO [.str (Str.ofString "text") uc0, .str (Str.ofString "x") uc1]) :: (b, tupO [.str (Str.ofString "start") ub0, .str (Str.ofString "a") ub1, .ref at_]) :: (at_, tupO []) :: st) := by
  unfold CallsTo
  intros
  rename_i hret
  refine wpAny_call ?_
  k_dflt (refine' code_def ?k1 ?k2 ?k3 ?k4 ?k5 ?kA ?kF ?kK ?k6 ?k7 ?k8 ?k9 ?kB ?_ ?c2 ?c3 ?c4 ?c5; (case kA | kF => exact rfl); (case kK => first | exact rfl | assumption); (case k1 | k2 | k3 | k4 | k5 => k_asm); (case k6 | k7 => k_is); (case k8 => first | exact room_0 (by assumption) | ktr_room); (case k9 => first | exact BindsTo.of_eq rfl | exact binds_K (by k_in) rfl (by k_is) rfl rfl rfl); (case c5 => decide); (case kB => exact locs rfl); (case c2 | c3 | c4 => exact rfl); k_whole; intro g' L' h' FG' F' N' B' X' T'; (try dsimp only); (try k_fold))
  (k_steps; (try repeat' ((with_reducible refine Stop.by ?_); (first | ((with_reducible show wpAny _ _ (call (Value.ref 923) _) _ _ _); k_dflt (refine' CallsTo.use ?zs ?z1 ?z2 ?z3 ?z4 ?z5 ?zK ?zd ?zu ?_; (case z1 | z2 | z3 | z4 | z5 => k_asm); (case zK => first | exact rfl | assumption); (case zs => exact (start_7 _ _ _ _ _ _ _ _ _ _ _ _ _ _ _ _ _ _ _ _ _ _ _ _ _ _ _ _ _ _ _ _ _ _ _ (by assumption) (by assumption) (by assumption) (by assumption) (by assumption) (by assumption) (by assumption) (by assumption) (by assumption) (by assumption) (by assumption) _ _)); (case zd => first | exact room_d (by assumption) (by exact rfl) | exact room_e (by assumption) (by exact rfl) | ktr_room); (case zu => first | exact room_u (by assumption) (by exact rfl) | exact room_v (by assumption) (by exact rfl) | exact room_x (by assumption) (by exact rfl) | exact room_w (by assumption) (by exact rfl) | exact room_y (by assumption) (by exact rfl) | ktr_units); (try dsimp only [RetV, len_0, len_1, len_2, len_3, len_4, len_5, len_6, len_7, len_8, len_9, len_10, len_11, len_12, len_13, len_14, len_15, len_16, len_17, len_18]); (with_reducible (repeat' (first | (refine And.intro ?_ ?_) | intro))); (all_goals (try dsimp only)); (all_goals (try (rename (∀ p : Addr × Obj, _ ∈ _ → @LT.lt Nat _ _ _) => zl1; k_lt zl1))); (all_goals (try contradiction)))) | ((first | (with_reducible show wpAny _ _ (call (Value.ref 211) _) _ _ _) | (with_reducible show wpAny _ _ (call (Value.ref 380) _) _ _ _) | (with_reducible show wpAny _ _ (call (Value.ref 322) _) _ _ _) | (with_reducible show wpAny _ _ (call (Value.ref 359) _) _ _ _) | (with_reducible show wpAny _ _ (call (Value.ref 401) _) _ _ _) | (with_reducible show wpAny _ _ (call (Value.ref 366) _) _ _ _) | (with_reducible show wpAny _ _ (call (Value.ref 225) _) _ _ _) | (with_reducible show wpAny _ _ (call (Value.ref 387) _) _ _ _) | (with_reducible show wpAny _ _ (call (Value.ref 337) _) _ _ _)); k_dflt (refine' CM.useI ?zs ?z1 ?z2 ?z3 ?z4 ?z5 ?zK ?zd ?zu ?zc ?zU ?ze ?_; (case z1 | z2 | z3 | z4 | z5 => k_asm); (case zK => first | exact rfl | assumption); (case zc => k_mem); (case zU => k_updF); (case ze => first | with_reducible exact rfl | with_reducible exact ca1 _ | with_reducible exact caN _ _ | exact ca0); (case zs => first | exact (end_T2 _ _ _ _) | exact (ahead_x _ _ _ _ _) | exact (over_yes _ _ _ _ _ _ (by walk_at "zz side") (by walk_at "zz side")) | exact (over_no _ _ _ _ _ _ (by walk_at "zz side") (by walk_at "zz side")) | exact (skip_yes _ _ _ _ _ _ (by walk_at "zz side") (by walk_at "zz side") _ _ (by walk_at "zz side") (by walk_at "zz side")) | exact (skip_no _ _ _ _ _ _ (by walk_at "zz side") (by walk_at "zz side") _ _ (by walk_at "zz side") (by walk_at "zz side")) | exact (name_a8 _ _ _ _) | exact (expect_yes _ _ _ _ _ _ (by walk_at "zz side") (by walk_at "zz side") _ _ (by walk_at "zz side") (by walk_at "zz side")) | exact (instr_T2 _ _ _ _) | exact (spaces_j _ _ _ _ _ _ _ (by walk_at "zz side") (by walk_at "zz side")) | exact (looks_yes _ _ _ _ _ _ (by walk_at "zz side") (by walk_at "zz side") _ _ (by walk_at "zz side"))); (case zd => first | exact room_d (by assumption) (by exact rfl) | exact room_e (by assumption) (by exact rfl) | ktr_room); (case zu => first | exact room_u (by assumption) (by exact rfl) | exact room_v (by assumption) (by exact rfl) | exact room_x (by assumption) (by exact rfl) | exact room_w (by assumption) (by exact rfl) | exact room_y (by assumption) (by exact rfl) | ktr_units); (try dsimp only [RetV, len_0, len_1, len_2, len_3, len_4, len_5, len_6, len_7, len_8, len_9, len_10, len_11, len_12, len_13, len_14, len_15, len_16, len_17, len_18]); (with_reducible (repeat' (first | (refine And.intro ?_ ?_) | intro))); (all_goals (try dsimp only)); (all_goals (try (rename (∀ p : Addr × Obj, _ ∈ _ → @LT.lt Nat _ _ _) => zl1; k_lt zl1))); (all_goals (try contradiction)))) | ((fail_if_success (with_reducible show wpAny _ _ (call (Value.ref 902) _) _ _ _)); (fail_if_success (with_reducible show wpAny _ _ (call (Value.ref 881) _) _ _ _)); k_dflt (refine wpAny_call ?_; (refine' code_def ?k1 ?k2 ?k3 ?k4 ?k5 ?kA ?kF ?kK ?k6 ?k7 ?k8 ?k9 ?kB ?_ ?c2 ?c3 ?c4 ?c5; (case kA | kF => exact rfl); (case kK => first | exact rfl | assumption); (case k1 | k2 | k3 | k4 | k5 => k_asm); (case k6 | k7 => k_is); (case k8 => first | exact room_0 (by assumption) | ktr_room); (case k9 => first | exact BindsTo.of_eq rfl | exact binds_K (by k_in) rfl (by k_is) rfl rfl rfl); (case c5 => decide); (case kB => exact locs rfl); (case c2 | c3 | c4 => exact rfl); k_whole; intro g' L' h' FG' F' N' B' X' T'; (try dsimp only); (try k_fold)))) | ((with_reducible show wpAny _ _ (call (Value.ref 150) _) _ _ _); k_dflt (refine' CallsTo.use (sf_call _ _ _ _ _ _ _ _ _) ?z1 ?z2 ?z3 ?z4 ?z5 ?zK ?zd ?zu ?_; (case z1 | z2 | z3 | z4 | z5 => k_asm); (case zK => first | exact rfl | assumption); (case zd => first | exact room_d (by assumption) (by exact rfl) | exact room_e (by assumption) (by exact rfl) | ktr_room); (case zu => first | exact room_u (by assumption) (by exact rfl) | exact room_v (by assumption) (by exact rfl) | exact room_x (by assumption) (by exact rfl) | exact room_w (by assumption) (by exact rfl) | exact room_y (by assumption) (by exact rfl) | ktr_units); intro e' t' oe' h' tk' hX' hg' hc' hd' hM'; (try dsimp only))) | ((with_reducible show wpAny _ _ (exec (Stmt.Raise _ _ _) _) _ _ _); k_dflt (refine' raise150 ?h ?_; (case h => exact rfl); (try k_fold))) | ((with_reducible show Exists _); (rename MadeF _ _ _ _ _ _ _ _ _ => hM9); refine ⟨_, _, _, rfl, by assumption, by assumption, by assumption, by assumption, ?_⟩) | ((with_reducible show wpAny _ _ (leaving _ (Value.ref _)) _ _ _); (k_dflt first | (refine' leave_newF (hk := by rfl) ?k1 ?k2 ?_; (case k2 => assumption); (case k1 => assumption); k_whole; intro h' R' U'; (try dsimp only at R' U' ⊢)) | (refine' leave_onF ?k1 ?k2 ?k3 ?k4 ?_; (case k3 => assumption); (case k1 => assumption); (case k2 => assumption); (case k4 => assumption); k_whole; intro h' R' U'; (try dsimp only at R' U' ⊢)))) | ((with_reducible show wpAny _ _ (subscriptTail _ _ (Value.str _ _) (Value.int _ _)) _ _ _); (k_dflt (refine' item_at ?hs ?h2 ?_ (by with_unfolding_all rfl) (by intro _; with_unfolding_all rfl); (case hs => omega); (case h2 => omega); (try dsimp only))))); k_steps)))
  refine Stop.by ?_
  rename News _ _ _ _ => nn
  replace nn := news_q2 nn
  replace hs := off_q2 nn hs (by dsimp only; (first | lia | omega)) (by dsimp only; (first | lia | omega)) (by dsimp only; (first | lia | omega)) (by dsimp only; (first | lia | omega)) (by dsimp only; (first | lia | omega)) (by dsimp only; (first | lia | omega))
  have m10 := mem_h2 nn
  have m11 := mem_h1 nn
  replace m1 := mem_q2 nn m1
  replace m2 := mem_q2 nn m2
  replace m3 := mem_q2 nn m3
  replace m4 := mem_q2 nn m4
  replace m5 := mem_q2 nn m5
  replace m6 := mem_q2 nn m6
  replace m7 := mem_q2 nn m7
  replace m8 := mem_q2 nn m8
  replace m9 := mem_q2 nn m9
  k_dflt (refine' CallsTo.use ?zs ?z1 ?z2 ?z3 ?z4 ?z5 ?zK ?zd ?zu ?_; (case z1 | z2 | z3 | z4 | z5 => k_asm); (case zK => first | exact rfl | assumption); (case zs => exact (step_10 _ _ _ _ _ _ _ _ _ _ _ _ _ _ _ _ _ _ _ _ _ _ _ _ _ _ _ _ _ _ _ _ _ _ _ (by assumption) (by assumption) (by assumption) (by assumption) (by assumption) (by assumption) (by assumption) (by assumption) (by assumption) (by assumption) (by assumption) _ _ _ _ _ _ _ _ _ _ _ (by assumption) (by assumption) (by assumption))); (case zd => first | exact room_d (by assumption) (by exact rfl) | exact room_e (by assumption) (by exact rfl) | ktr_room); (case zu => first | exact room_u (by assumption) (by exact rfl) | exact room_v (by assumption) (by exact rfl) | exact room_x (by assumption) (by exact rfl) | exact room_w (by assumption) (by exact rfl) | exact room_y (by assumption) (by exact rfl) | ktr_units); (try dsimp only [RetV, len_0, len_1, len_2, len_3, len_4, len_5, len_6, len_7, len_8, len_9, len_10, len_11, len_12, len_13, len_14, len_15, len_16, len_17, len_18]); (with_reducible (repeat' (first | (refine And.intro ?_ ?_) | intro))); (all_goals (try dsimp only)); (all_goals (try (rename (∀ p : Addr × Obj, _ ∈ _ → @LT.lt Nat _ _ _) => zl1; k_lt zl1))); (all_goals (try contradiction)); (all_goals (try (with_reducible refine unmd ?_; k_unfold; (try dsimp only)))))
  (k_steps; (try repeat' ((with_reducible refine Stop.by ?_); (first | ((fail_if_success (with_reducible show wpAny _ _ (call (Value.ref 902) _) _ _ _)); (fail_if_success (with_reducible show wpAny _ _ (call (Value.ref 881) _) _ _ _)); k_dflt (refine wpAny_call ?_; (refine' code_def ?k1 ?k2 ?k3 ?k4 ?k5 ?kA ?kF ?kK ?k6 ?k7 ?k8 ?k9 ?kB ?_ ?c2 ?c3 ?c4 ?c5; (case kA | kF => exact rfl); (case kK => first | exact rfl | assumption); (case k1 | k2 | k3 | k4 | k5 => k_asm); (case k6 | k7 => k_is); (case k8 => first | exact room_0 (by assumption) | ktr_room); (case k9 => first | exact BindsTo.of_eq rfl | exact binds_K (by k_in) rfl (by k_is) rfl rfl rfl); (case c5 => decide); (case kB => exact locs rfl); (case c2 | c3 | c4 => exact rfl); k_whole; intro g' L' h' FG' F' N' B' X' T'; (try dsimp only); (try k_fold)))) | ((with_reducible show wpAny _ _ (call (Value.ref 150) _) _ _ _); k_dflt (refine' CallsTo.use (sf_call _ _ _ _ _ _ _ _ _) ?z1 ?z2 ?z3 ?z4 ?z5 ?zK ?zd ?zu ?_; (case z1 | z2 | z3 | z4 | z5 => k_asm); (case zK => first | exact rfl | assumption); (case zd => first | exact room_d (by assumption) (by exact rfl) | exact room_e (by assumption) (by exact rfl) | ktr_room); (case zu => first | exact room_u (by assumption) (by exact rfl) | exact room_v (by assumption) (by exact rfl) | exact room_x (by assumption) (by exact rfl) | exact room_w (by assumption) (by exact rfl) | exact room_y (by assumption) (by exact rfl) | ktr_units); intro e' t' oe' h' tk' hX' hg' hc' hd' hM'; (try dsimp only))) | ((with_reducible show wpAny _ _ (exec (Stmt.Raise _ _ _) _) _ _ _); k_dflt (refine' raise150 ?h ?_; (case h => exact rfl); (try k_fold))) | ((with_reducible show Exists _); (rename MadeF _ _ _ _ _ _ _ _ _ => hM9); refine ⟨_, _, _, rfl, by assumption, by assumption, by assumption, by assumption, ?_⟩) | ((with_reducible show wpAny _ _ (leaving _ (Value.ref _)) _ _ _); (k_dflt first | (refine' leave_newF (hk := by rfl) ?k1 ?k2 ?_; (case k2 => assumption); (case k1 => assumption); k_whole; intro h' R' U'; (try dsimp only at R' U' ⊢)) | (refine' leave_onF ?k1 ?k2 ?k3 ?k4 ?_; (case k3 => assumption); (case k1 => assumption); (case k2 => assumption); (case k4 => assumption); k_whole; intro h' R' U'; (try dsimp only at R' U' ⊢)))) | ((with_reducible show wpAny _ _ (subscriptTail _ _ (Value.str _ _) (Value.int _ _)) _ _ _); (k_dflt (refine' item_at ?hs ?h2 ?_ (by with_unfolding_all rfl) (by intro _; with_unfolding_all rfl); (case hs => omega); (case h2 => omega); (try dsimp only))))); k_steps)))
  refine Stop.by ?_
  rename News _ _ _ _ => nn
  replace nn := news_q1 nn
  replace hs := off_q1 nn hs (by dsimp only; (first | lia | omega)) (by dsimp only; (first | lia | omega)) (by dsimp only; (first | lia | omega))
  replace m1 := mem_q1 nn m1
  replace m2 := mem_q1 nn m2
  replace m3 := mem_q1 nn m3
  replace m4 := mem_q1 nn m4
  replace m5 := mem_q1 nn m5
  replace m6 := mem_q1 nn m6
  replace m7 := mem_q1 nn m7
  replace m8 := mem_q1 nn m8
  k_dflt (refine' CallsTo.use ?zs ?z1 ?z2 ?z3 ?z4 ?z5 ?zK ?zd ?zu ?_; (case z1 | z2 | z3 | z4 | z5 => k_asm); (case zK => first | exact rfl | assumption); (case zs => exact (step_11 _ _ _ _ _ _ _ _ _ _ _ _ _ _ _ _ _ _ _ _ _ _ _ _ _ _ _ _ _ _ _ _ _ _ _ (by assumption) (by assumption) (by assumption) (by assumption) (by assumption) (by assumption) (by assumption) (by assumption) (by assumption) (by assumption) (by assumption) _ _ _ _ _ _)); (case zd => first | exact room_d (by assumption) (by exact rfl) | exact room_e (by assumption) (by exact rfl) | ktr_room); (case zu => first | exact room_u (by assumption) (by exact rfl) | exact room_v (by assumption) (by exact rfl) | exact room_x (by assumption) (by exact rfl) | exact room_w (by assumption) (by exact rfl) | exact room_y (by assumption) (by exact rfl) | ktr_units); (try dsimp only [RetV, len_0, len_1, len_2, len_3, len_4, len_5, len_6, len_7, len_8, len_9, len_10, len_11, len_12, len_13, len_14, len_15, len_16, len_17, len_18]); (with_reducible (repeat' (first | (refine And.intro ?_ ?_) | intro))); (all_goals (try dsimp only)); (all_goals (try (rename (∀ p : Addr × Obj, _ ∈ _ → @LT.lt Nat _ _ _) => zl1; k_lt zl1))); (all_goals (try contradiction)); (all_goals (try (with_reducible refine unmd ?_; k_unfold; (try dsimp only)))))
  (k_steps; (try repeat' ((with_reducible refine Stop.by ?_); (first | ((fail_if_success (with_reducible show wpAny _ _ (call (Value.ref 902) _) _ _ _)); (fail_if_success (with_reducible show wpAny _ _ (call (Value.ref 881) _) _ _ _)); k_dflt (refine wpAny_call ?_; (refine' code_def ?k1 ?k2 ?k3 ?k4 ?k5 ?kA ?kF ?kK ?k6 ?k7 ?k8 ?k9 ?kB ?_ ?c2 ?c3 ?c4 ?c5; (case kA | kF => exact rfl); (case kK => first | exact rfl | assumption); (case k1 | k2 | k3 | k4 | k5 => k_asm); (case k6 | k7 => k_is); (case k8 => first | exact room_0 (by assumption) | ktr_room); (case k9 => first | exact BindsTo.of_eq rfl | exact binds_K (by k_in) rfl (by k_is) rfl rfl rfl); (case c5 => decide); (case kB => exact locs rfl); (case c2 | c3 | c4 => exact rfl); k_whole; intro g' L' h' FG' F' N' B' X' T'; (try dsimp only); (try k_fold)))) | ((with_reducible show wpAny _ _ (call (Value.ref 150) _) _ _ _); k_dflt (refine' CallsTo.use (sf_call _ _ _ _ _ _ _ _ _) ?z1 ?z2 ?z3 ?z4 ?z5 ?zK ?zd ?zu ?_; (case z1 | z2 | z3 | z4 | z5 => k_asm); (case zK => first | exact rfl | assumption); (case zd => first | exact room_d (by assumption) (by exact rfl) | exact room_e (by assumption) (by exact rfl) | ktr_room); (case zu => first | exact room_u (by assumption) (by exact rfl) | exact room_v (by assumption) (by exact rfl) | exact room_x (by assumption) (by exact rfl) | exact room_w (by assumption) (by exact rfl) | exact room_y (by assumption) (by exact rfl) | ktr_units); intro e' t' oe' h' tk' hX' hg' hc' hd' hM'; (try dsimp only))) | ((with_reducible show wpAny _ _ (exec (Stmt.Raise _ _ _) _) _ _ _); k_dflt (refine' raise150 ?h ?_; (case h => exact rfl); (try k_fold))) | ((with_reducible show Exists _); (rename MadeF _ _ _ _ _ _ _ _ _ => hM9); refine ⟨_, _, _, rfl, by assumption, by assumption, by assumption, by assumption, ?_⟩) | ((with_reducible show wpAny _ _ (leaving _ (Value.ref _)) _ _ _); (k_dflt first | (refine' leave_newF (hk := by rfl) ?k1 ?k2 ?_; (case k2 => assumption); (case k1 => assumption); k_whole; intro h' R' U'; (try dsimp only at R' U' ⊢)) | (refine' leave_onF ?k1 ?k2 ?k3 ?k4 ?_; (case k3 => assumption); (case k1 => assumption); (case k2 => assumption); (case k4 => assumption); k_whole; intro h' R' U'; (try dsimp only at R' U' ⊢)))) | ((with_reducible show wpAny _ _ (subscriptTail _ _ (Value.str _ _) (Value.int _ _)) _ _ _); (k_dflt (refine' item_at ?hs ?h2 ?_ (by with_unfolding_all rfl) (by intro _; with_unfolding_all rfl); (case hs => omega); (case h2 => omega); (try dsimp only))))); k_steps)))
  refine Stop.by ?_
  rename News _ _ _ _ => nn
  replace nn := news_q1 nn
  replace hs := off_q1 nn hs (by dsimp only; (first | lia | omega)) (by dsimp only; (first | lia | omega)) (by dsimp only; (first | lia | omega))
  replace m1 := mem_q1 nn m1
  replace m2 := mem_q1 nn m2
  replace m3 := mem_q1 nn m3
  replace m4 := mem_q1 nn m4
  replace m5 := mem_q1 nn m5
  replace m6 := mem_q1 nn m6
  replace m7 := mem_q1 nn m7
  replace m8 := mem_q1 nn m8
  k_dflt (refine' CallsTo.use ?zs ?z1 ?z2 ?z3 ?z4 ?z5 ?zK ?zd ?zu ?_; (case z1 | z2 | z3 | z4 | z5 => k_asm); (case zK => first | exact rfl | assumption); (case zs => exact (between_15 _ _ _ _ _ _ _ _ _ _ _ _ _ _ _ _ _ _ _ _ _ _ _ _ _ _ _ _ _ _ _ _ _ _ _ (by assumption) (by assumption) (by assumption) (by assumption) (by assumption) (by assumption) (by assumption) (by assumption) (by assumption) (by assumption) (by assumption) _ _ _ _)); (case zd => first | exact room_d (by assumption) (by exact rfl) | exact room_e (by assumption) (by exact rfl) | ktr_room); (case zu => first | exact room_u (by assumption) (by exact rfl) | exact room_v (by assumption) (by exact rfl) | exact room_x (by assumption) (by exact rfl) | exact room_w (by assumption) (by exact rfl) | exact room_y (by assumption) (by exact rfl) | ktr_units); (try dsimp only [RetV, len_0, len_1, len_2, len_3, len_4, len_5, len_6, len_7, len_8, len_9, len_10, len_11, len_12, len_13, len_14, len_15, len_16, len_17, len_18]); (with_reducible (repeat' (first | (refine And.intro ?_ ?_) | intro))); (all_goals (try dsimp only)); (all_goals (try (rename (∀ p : Addr × Obj, _ ∈ _ → @LT.lt Nat _ _ _) => zl1; k_lt zl1))); (all_goals (try contradiction)); (all_goals (try (with_reducible refine unmd ?_; k_unfold; (try dsimp only)))))
  (k_steps; (try repeat' ((with_reducible refine Stop.by ?_); ((first | (with_reducible show wpAny _ _ (call (Value.ref 211) _) _ _ _) | (with_reducible show wpAny _ _ (call (Value.ref 380) _) _ _ _) | (with_reducible show wpAny _ _ (call (Value.ref 322) _) _ _ _)); k_dflt (refine' CM.useI ?zs ?z1 ?z2 ?z3 ?z4 ?z5 ?zK ?zd ?zu ?zc ?zU ?ze ?_; (case z1 | z2 | z3 | z4 | z5 => k_asm); (case zK => first | exact rfl | assumption); (case zc => k_mem); (case zU => k_updF); (case ze => first | with_reducible exact rfl | with_reducible exact ca1 _ | with_reducible exact caN _ _ | exact ca0); (case zs => first | exact (end_T2 _ _ _ _) | exact (ahead_x _ _ _ _ _) | exact (over_yes _ _ _ _ _ _ (by walk_at "zz side") (by walk_at "zz side"))); (case zd => first | exact room_d (by assumption) (by exact rfl) | exact room_e (by assumption) (by exact rfl) | ktr_room); (case zu => first | exact room_u (by assumption) (by exact rfl) | exact room_v (by assumption) (by exact rfl) | exact room_x (by assumption) (by exact rfl) | exact room_w (by assumption) (by exact rfl) | exact room_y (by assumption) (by exact rfl) | ktr_units); (try dsimp only [RetV, len_0, len_1, len_2, len_3, len_4, len_5, len_6, len_7, len_8, len_9, len_10, len_11, len_12, len_13, len_14, len_15, len_16, len_17, len_18]); (with_reducible (repeat' (first | (refine And.intro ?_ ?_) | intro))); (all_goals (try dsimp only)); (all_goals (try (rename (∀ p : Addr × Obj, _ ∈ _ → @LT.lt Nat _ _ _) => zl1; k_lt zl1))); (all_goals (try contradiction)))); k_steps)))
  rename News _ _ _ _ => nn
  exact hret _ _ _ _ _ _ _ _ _ _ _ _ _ (by assumption) nn
end Mine
end -- Rf
section -- Rg
namespace Mine
set_option maxHeartbeats 1000000 in
theorem prolog_0 (w mean mg mb) (en gr r rD e eD rows c d fr fD fs nm : Addr) (q0 q1 q2 q3 q4 q5 q6 q7 q8 q9 qa qx qy t1 tt t2 tk : CTok) (st : List (Addr × Obj)) (hs : OwnOff st [d, rows, nm]) (l0 : @LT.lt Nat _ rows d) (l1 : @LT.lt Nat _ d nm) (m1 : (r, instObj 961 rD) ∈ st) (m2 : (rD, dictOf [⟨PyData.keyHash w.params (Str.ofString "entities"), .str (Str.ofString "entities") q0, .ref en⟩, ⟨PyData.keyHash w.params (Str.ofString "on_doctype"), .str (Str.ofString "on_doctype") q1, .none⟩, ⟨PyData.keyHash w.params (Str.ofString "found"), .str (Str.ofString "found") q2, .ref e⟩, ⟨PyData.keyHash w.params (Str.ofString "frames"), .str (Str.ofString "frames") q3, .ref fs⟩, ⟨PyData.keyHash w.params (Str.ofString "growth"), .str (Str.ofString "growth") q4, .ref gr⟩, ⟨PyData.keyHash w.params (Str.ofString "names"), .str (Str.ofString "names") q5, .ref nm⟩] 6) ∈ st) (m3 : (e, instObj 820 eD) ∈ st) (m4 : (eD, dictOf [⟨PyData.keyHash w.params (Str.ofString "rows"), .str (Str.ofString "rows") q6, .ref rows⟩] 1) ∈ st) (m5 : (fs, listOf #[.ref fr] 0) ∈ st) (m6 : (fr, instObj 841 fD) ∈ st) (m7 : (fD, dictOf [⟨PyData.keyHash w.params (Str.ofString "cursor"), .str (Str.ofString "cursor") q7, .ref c⟩, ⟨PyData.keyHash w.params (Str.ofString "name"), .str (Str.ofString "name") q8, .none⟩, ⟨PyData.keyHash w.params (Str.ofString "place"), .str (Str.ofString "place") q9, .int 0 qx⟩, ⟨PyData.keyHash w.params (Str.ofString "many"), .str (Str.ofString "many") qa, .int 0 qy⟩] 4) ∈ st) (m8 : (c, instObj 418 d) ∈ st) : CallsTo w mean mg mb 16 874 ((d, curD w.params t1 T2 tt t2 0 tk) :: (rows, listOf (#[]) (0)) :: (nm, listOf (#[]) (0)) :: st) [.ref r] fun base h₀ fr9 L m s Q E =>
    ∀ tk' ua0 ua1 ua2 a0 l nL, @LT.lt Nat _ nm a0 → (∀ q ∈ (a0, tupO [.str (Str.ofString "instruction") ua0, .str (Str.ofString "p") ua1, .str (Str.ofString "q") ua2]) :: (d, curD w.params t1 T2 tt t2 ((7 : Nat) : Int) tk') :: (rows, listOf (#[.ref a0]) (1)) :: (nm, listOf (#[]) (0)) :: st, @LT.lt Nat _ q.1 l) → RetTo h₀ L m s Q (.ref l) ((l, listOf #[.ref a0] nL) :: (a0, tupO [.str (Str.ofString "instruction") ua0, .str (Str.ofString "p") ua1, .str (Str.ofString "q") ua2]) :: (d, curD w.params t1 T2 tt t2 ((7 : Nat) : Int) tk') :: (rows, listOf (#[.ref a0]) (1)) :: (nm, listOf (#[]) (0)) :: st) := by
  unfold CallsTo
  intros
  rename_i hret
  refine wpAny_call ?_
  k_dflt (refine' code_def ?k1 ?k2 ?k3 ?k4 ?k5 ?kA ?kF ?kK ?k6 ?k7 ?k8 ?k9 ?kB ?_ ?c2 ?c3 ?c4 ?c5; (case kA | kF => exact rfl); (case kK => first | exact rfl | assumption); (case k1 | k2 | k3 | k4 | k5 => k_asm); (case k6 | k7 => k_is); (case k8 => first | exact room_0 (by assumption) | ktr_room); (case k9 => first | exact BindsTo.of_eq rfl | exact binds_K (by k_in) rfl (by k_is) rfl rfl rfl); (case c5 => decide); (case kB => exact locs rfl); (case c2 | c3 | c4 => exact rfl); k_whole; intro g' L' h' FG' F' N' B' X' T'; (try dsimp only); (try k_fold))
  (k_steps; (try repeat' ((with_reducible refine Stop.by ?_); (first | ((with_reducible show wpAny _ _ (call (Value.ref 881) _) _ _ _); k_dflt (refine' CallsTo.use ?zs ?z1 ?z2 ?z3 ?z4 ?z5 ?zK ?zd ?zu ?_; (case z1 | z2 | z3 | z4 | z5 => k_asm); (case zK => first | exact rfl | assumption); (case zs => exact (between_0 _ _ _ _ _ _ _ _ _ _ _ _ _ _ _ _ _ _ _ _ _ _ _ _ _ _ _ _ _ _ _ _ _ _ _ (by assumption) (by assumption) (by assumption) (by assumption) (by assumption) (by assumption) (by assumption) (by assumption) (by assumption) (by assumption) (by assumption))); (case zd => first | exact room_d (by assumption) (by exact rfl) | exact room_e (by assumption) (by exact rfl) | ktr_room); (case zu => first | exact room_u (by assumption) (by exact rfl) | exact room_v (by assumption) (by exact rfl) | exact room_x (by assumption) (by exact rfl) | exact room_w (by assumption) (by exact rfl) | exact room_y (by assumption) (by exact rfl) | ktr_units); (try dsimp only [RetV, len_0, len_1, len_2, len_3, len_4, len_5, len_6, len_7, len_8, len_9, len_10, len_11, len_12, len_13, len_14, len_15, len_16, len_17, len_18]); (with_reducible (repeat' (first | (refine And.intro ?_ ?_) | intro))); (all_goals (try dsimp only)); (all_goals (try (rename (∀ p : Addr × Obj, _ ∈ _ → @LT.lt Nat _ _ _) => zl1; k_lt zl1))); (all_goals (try contradiction)))) | ((first | (with_reducible show wpAny _ _ (call (Value.ref 211) _) _ _ _) | (with_reducible show wpAny _ _ (call (Value.ref 380) _) _ _ _) | (with_reducible show wpAny _ _ (call (Value.ref 322) _) _ _ _) | (with_reducible show wpAny _ _ (call (Value.ref 359) _) _ _ _) | (with_reducible show wpAny _ _ (call (Value.ref 401) _) _ _ _) | (with_reducible show wpAny _ _ (call (Value.ref 366) _) _ _ _) | (with_reducible show wpAny _ _ (call (Value.ref 225) _) _ _ _) | (with_reducible show wpAny _ _ (call (Value.ref 387) _) _ _ _) | (with_reducible show wpAny _ _ (call (Value.ref 337) _) _ _ _)); k_dflt (refine' CM.useI ?zs ?z1 ?z2 ?z3 ?z4 ?z5 ?zK ?zd ?zu ?zc ?zU ?ze ?_; (case z1 | z2 | z3 | z4 | z5 => k_asm); (case zK => first | exact rfl | assumption); (case zc => k_mem); (case zU => k_updF); (case ze => first | with_reducible exact rfl | with_reducible exact ca1 _ | with_reducible exact caN _ _ | exact ca0); (case zs => first | exact (end_T2 _ _ _ _) | exact (ahead_x _ _ _ _ _) | exact (over_yes _ _ _ _ _ _ (by walk_at "zz side") (by walk_at "zz side")) | exact (over_no _ _ _ _ _ _ (by walk_at "zz side") (by walk_at "zz side")) | exact (skip_yes _ _ _ _ _ _ (by walk_at "zz side") (by walk_at "zz side") _ _ (by walk_at "zz side") (by walk_at "zz side")) | exact (skip_no _ _ _ _ _ _ (by walk_at "zz side") (by walk_at "zz side") _ _ (by walk_at "zz side") (by walk_at "zz side")) | exact (name_a8 _ _ _ _) | exact (expect_yes _ _ _ _ _ _ (by walk_at "zz side") (by walk_at "zz side") _ _ (by walk_at "zz side") (by walk_at "zz side")) | exact (instr_T2 _ _ _ _) | exact (spaces_j _ _ _ _ _ _ _ (by walk_at "zz side") (by walk_at "zz side")) | exact (looks_yes _ _ _ _ _ _ (by walk_at "zz side") (by walk_at "zz side") _ _ (by walk_at "zz side")) | exact (looks_no _ _ _ _ _ _ (by walk_at "zz side") (by walk_at "zz side") _ _ (by walk_at "zz side"))); (case zd => first | exact room_d (by assumption) (by exact rfl) | exact room_e (by assumption) (by exact rfl) | ktr_room); (case zu => first | exact room_u (by assumption) (by exact rfl) | exact room_v (by assumption) (by exact rfl) | exact room_x (by assumption) (by exact rfl) | exact room_w (by assumption) (by exact rfl) | exact room_y (by assumption) (by exact rfl) | ktr_units); (try dsimp only [RetV, len_0, len_1, len_2, len_3, len_4, len_5, len_6, len_7, len_8, len_9, len_10, len_11, len_12, len_13, len_14, len_15, len_16, len_17, len_18]); (with_reducible (repeat' (first | (refine And.intro ?_ ?_) | intro))); (all_goals (try dsimp only)); (all_goals (try (rename (∀ p : Addr × Obj, _ ∈ _ → @LT.lt Nat _ _ _) => zl1; k_lt zl1))); (all_goals (try contradiction))))); k_steps)))
  rename News _ _ _ _ => nn
  rename @LT.lt Nat _ _ _ ∧ _ => la
  exact hret _ _ _ _ _ _ _ (by (first | lia | omega)) (fun p hp => kst_ltOf (l := (_, _) :: (_, _) :: (_, _) :: (_, _) :: _) la p hp) _ _ (by assumption) nn
end Mine
end -- Rg
section -- Rh
namespace Mine
local macro_rules | `(tactic| k_enter) => `(tactic| refine Stop.at ?_)
theorem new_ev (w mean mg mb) (ws : List (Addr × Obj)) : CallsTo w mean mg mb 4 820 ws [] fun base h₀ fr9 L m s Q E =>
    ∀ (e eD rows : Addr) (q6 : CTok), (@LT.lt Nat _ eD e ∧ @LT.lt Nat _ e rows) → (∀ q ∈ ws, @LT.lt Nat _ q.1 eD) →
      RetTo h₀ L m s Q (.ref e) ((rows, listOf #[] 0) :: (e, instObj 820 eD) :: (eD, dictOf [⟨PyData.keyHash w.params (Str.ofString "rows"), .str (Str.ofString "rows") q6, .ref rows⟩] 1) :: ws) := by
  unfold CallsTo
  intros
  rename_i hret
  (k_steps; (try repeat' ((with_reducible refine Stop.by ?_); (first | (k_dflt (refine wpAny_call ?_; (refine' code_def ?k1 ?k2 ?k3 ?k4 ?k5 ?kA ?kF ?kK ?k6 ?k7 ?k8 ?k9 ?kB ?_ ?c2 ?c3 ?c4 ?c5; (case kA | kF => exact rfl); (case kK => first | exact rfl | assumption); (case k1 | k2 | k3 | k4 | k5 => k_asm); (case k6 | k7 => k_is); (case k8 => first | exact room_0 (by assumption) | ktr_room); (case k9 => first | exact BindsTo.of_eq rfl | exact binds_K (by k_in) rfl (by k_is) rfl rfl rfl); (case c5 => decide); (case kB => exact locs rfl); (case c2 | c3 | c4 => exact rfl); k_whole; intro g' L' h' FG' F' N' B' X' T'; (try dsimp only); (try k_fold)))) | ((with_reducible show wpAny _ _ (call (Value.ref 150) _) _ _ _); k_dflt (refine' CallsTo.use (sf_call _ _ _ _ _ _ _ _ _) ?z1 ?z2 ?z3 ?z4 ?z5 ?zK ?zd ?zu ?_; (case z1 | z2 | z3 | z4 | z5 => k_asm); (case zK => first | exact rfl | assumption); (case zd => first | exact room_d (by assumption) (by exact rfl) | exact room_e (by assumption) (by exact rfl) | ktr_room); (case zu => first | exact room_u (by assumption) (by exact rfl) | exact room_v (by assumption) (by exact rfl) | exact room_x (by assumption) (by exact rfl) | exact room_w (by assumption) (by exact rfl) | exact room_y (by assumption) (by exact rfl) | ktr_units); intro e' t' oe' h' tk' hX' hg' hc' hd' hM'; (try dsimp only))) | ((with_reducible show wpAny _ _ (exec (Stmt.Raise _ _ _) _) _ _ _); k_dflt (refine' raise150 ?h ?_; (case h => exact rfl); (try k_fold))) | ((with_reducible show Exists _); (rename MadeF _ _ _ _ _ _ _ _ _ => hM9); refine ⟨_, _, _, rfl, by assumption, by assumption, by assumption, by assumption, ?_⟩) | ((with_reducible show wpAny _ _ (leaving _ (Value.ref _)) _ _ _); (k_dflt first | (refine' leave_newF (hk := by rfl) ?k1 ?k2 ?_; (case k2 => assumption); (case k1 => assumption); k_whole; intro h' R' U'; (try dsimp only at R' U' ⊢)) | (refine' leave_onF ?k1 ?k2 ?k3 ?k4 ?_; (case k3 => assumption); (case k1 => assumption); (case k2 => assumption); (case k4 => assumption); k_whole; intro h' R' U'; (try dsimp only at R' U' ⊢)))) | ((with_reducible show wpAny _ _ (subscriptTail _ _ (Value.str _ _) (Value.int _ _)) _ _ _); (k_dflt (refine' item_at ?hs ?h2 ?_ (by with_unfolding_all rfl) (by intro _; with_unfolding_all rfl); (case hs => omega); (case h2 => omega); (try dsimp only)))) | (k_dflt (refine' code_def ?k1 ?k2 ?k3 ?k4 ?k5 ?kA ?kF ?kK ?k6 ?k7 ?k8 ?k9 ?kB ?_ ?c2 ?c3 ?c4 ?c5; (case kA | kF => exact rfl); (case kK => first | exact rfl | assumption); (case k1 | k2 | k3 | k4 | k5 => k_asm); (case k6 | k7 => k_is); (case k8 => first | exact room_0 (by assumption) | ktr_room); (case k9 => first | exact BindsTo.of_eq rfl | exact binds_K (by k_in) rfl (by k_is) rfl rfl rfl); (case c5 => decide); (case kB => exact locs rfl); (case c2 | c3 | c4 => exact rfl); k_whole; intro g' L' h' FG' F' N' B' X' T'; (try dsimp only); (try k_fold)))); k_steps)))
  rename News _ _ _ _ => nn
  exact hret _ _ _ _ ⟨by (first | lia | omega), by (first | lia | omega)⟩ (by first | assumption | exact fun p hp => kst_ltOf (by assumption) p hp) _ _ (by assumption) nn
theorem new_cur (w mean mg mb) (T : Str) (u : CTok) (ws : List (Addr × Obj)) : CallsTo w mean mg mb 4 418 ws [.str T u] fun base h₀ fr9 L m s Q E =>
    ∀ (c d : Addr) (t1 tt t2 tk : CTok), @LT.lt Nat _ d c → (∀ q ∈ ws, @LT.lt Nat _ q.1 d) →
      RetTo h₀ L m s Q (.ref c) ((c, instObj 418 d) :: (d, curD w.params t1 T tt t2 0 tk) :: ws) := by
  unfold CallsTo
  intros
  rename_i hret
  (k_steps; (try repeat' ((with_reducible refine Stop.by ?_); (first | (k_dflt (refine wpAny_call ?_; (refine' code_def ?k1 ?k2 ?k3 ?k4 ?k5 ?kA ?kF ?kK ?k6 ?k7 ?k8 ?k9 ?kB ?_ ?c2 ?c3 ?c4 ?c5; (case kA | kF => exact rfl); (case kK => first | exact rfl | assumption); (case k1 | k2 | k3 | k4 | k5 => k_asm); (case k6 | k7 => k_is); (case k8 => first | exact room_0 (by assumption) | ktr_room); (case k9 => first | exact BindsTo.of_eq rfl | exact binds_K (by k_in) rfl (by k_is) rfl rfl rfl); (case c5 => decide); (case kB => exact locs rfl); (case c2 | c3 | c4 => exact rfl); k_whole; intro g' L' h' FG' F' N' B' X' T'; (try dsimp only); (try k_fold)))) | ((with_reducible show wpAny _ _ (call (Value.ref 150) _) _ _ _); k_dflt (refine' CallsTo.use (sf_call _ _ _ _ _ _ _ _ _) ?z1 ?z2 ?z3 ?z4 ?z5 ?zK ?zd ?zu ?_; (case z1 | z2 | z3 | z4 | z5 => k_asm); (case zK => first | exact rfl | assumption); (case zd => first | exact room_d (by assumption) (by exact rfl) | exact room_e (by assumption) (by exact rfl) | ktr_room); (case zu => first | exact room_u (by assumption) (by exact rfl) | exact room_v (by assumption) (by exact rfl) | exact room_x (by assumption) (by exact rfl) | exact room_w (by assumption) (by exact rfl) | exact room_y (by assumption) (by exact rfl) | ktr_units); intro e' t' oe' h' tk' hX' hg' hc' hd' hM'; (try dsimp only))) | ((with_reducible show wpAny _ _ (exec (Stmt.Raise _ _ _) _) _ _ _); k_dflt (refine' raise150 ?h ?_; (case h => exact rfl); (try k_fold))) | ((with_reducible show Exists _); (rename MadeF _ _ _ _ _ _ _ _ _ => hM9); refine ⟨_, _, _, rfl, by assumption, by assumption, by assumption, by assumption, ?_⟩) | ((with_reducible show wpAny _ _ (leaving _ (Value.ref _)) _ _ _); (k_dflt first | (refine' leave_newF (hk := by rfl) ?k1 ?k2 ?_; (case k2 => assumption); (case k1 => assumption); k_whole; intro h' R' U'; (try dsimp only at R' U' ⊢)) | (refine' leave_onF ?k1 ?k2 ?k3 ?k4 ?_; (case k3 => assumption); (case k1 => assumption); (case k2 => assumption); (case k4 => assumption); k_whole; intro h' R' U'; (try dsimp only at R' U' ⊢)))) | ((with_reducible show wpAny _ _ (subscriptTail _ _ (Value.str _ _) (Value.int _ _)) _ _ _); (k_dflt (refine' item_at ?hs ?h2 ?_ (by with_unfolding_all rfl) (by intro _; with_unfolding_all rfl); (case hs => omega); (case h2 => omega); (try dsimp only)))) | (k_dflt (refine' code_def ?k1 ?k2 ?k3 ?k4 ?k5 ?kA ?kF ?kK ?k6 ?k7 ?k8 ?k9 ?kB ?_ ?c2 ?c3 ?c4 ?c5; (case kA | kF => exact rfl); (case kK => first | exact rfl | assumption); (case k1 | k2 | k3 | k4 | k5 => k_asm); (case k6 | k7 => k_is); (case k8 => first | exact room_0 (by assumption) | ktr_room); (case k9 => first | exact BindsTo.of_eq rfl | exact binds_K (by k_in) rfl (by k_is) rfl rfl rfl); (case c5 => decide); (case kB => exact locs rfl); (case c2 | c3 | c4 => exact rfl); k_whole; intro g' L' h' FG' F' N' B' X' T'; (try dsimp only); (try k_fold)))); k_steps)))
  rename News _ _ _ _ => nn
  exact hret _ _ _ _ _ _ (by (first | lia | omega)) (by first | assumption | exact fun p hp => kst_ltOf (by assumption) p hp) _ _ (by assumption) nn
theorem new_fr (w mean mg mb) (c : Addr) (u v : CTok) (ws : List (Addr × Obj)) : CallsTo w mean mg mb 4 841 ws [.ref c, .none, .int 0 u, .int 0 v] fun base h₀ fr9 L m s Q E =>
    ∀ (fr fD : Addr) (q7 q8 q9 qa qx qy : CTok), @LT.lt Nat _ fD fr → (∀ q ∈ ws, @LT.lt Nat _ q.1 fD) →
      RetTo h₀ L m s Q (.ref fr) ((fr, instObj 841 fD) :: (fD, dictOf [⟨PyData.keyHash w.params (Str.ofString "cursor"), .str (Str.ofString "cursor") q7, .ref c⟩, ⟨PyData.keyHash w.params (Str.ofString "name"), .str (Str.ofString "name") q8, .none⟩, ⟨PyData.keyHash w.params (Str.ofString "place"), .str (Str.ofString "place") q9, .int 0 qx⟩, ⟨PyData.keyHash w.params (Str.ofString "many"), .str (Str.ofString "many") qa, .int 0 qy⟩] 4) :: ws) := by
  unfold CallsTo
  intros
  rename_i hret
  (k_steps; (try repeat' ((with_reducible refine Stop.by ?_); (first | (k_dflt (refine wpAny_call ?_; (refine' code_def ?k1 ?k2 ?k3 ?k4 ?k5 ?kA ?kF ?kK ?k6 ?k7 ?k8 ?k9 ?kB ?_ ?c2 ?c3 ?c4 ?c5; (case kA | kF => exact rfl); (case kK => first | exact rfl | assumption); (case k1 | k2 | k3 | k4 | k5 => k_asm); (case k6 | k7 => k_is); (case k8 => first | exact room_0 (by assumption) | ktr_room); (case k9 => first | exact BindsTo.of_eq rfl | exact binds_K (by k_in) rfl (by k_is) rfl rfl rfl); (case c5 => decide); (case kB => exact locs rfl); (case c2 | c3 | c4 => exact rfl); k_whole; intro g' L' h' FG' F' N' B' X' T'; (try dsimp only); (try k_fold)))) | ((with_reducible show wpAny _ _ (call (Value.ref 150) _) _ _ _); k_dflt (refine' CallsTo.use (sf_call _ _ _ _ _ _ _ _ _) ?z1 ?z2 ?z3 ?z4 ?z5 ?zK ?zd ?zu ?_; (case z1 | z2 | z3 | z4 | z5 => k_asm); (case zK => first | exact rfl | assumption); (case zd => first | exact room_d (by assumption) (by exact rfl) | exact room_e (by assumption) (by exact rfl) | ktr_room); (case zu => first | exact room_u (by assumption) (by exact rfl) | exact room_v (by assumption) (by exact rfl) | exact room_x (by assumption) (by exact rfl) | exact room_w (by assumption) (by exact rfl) | exact room_y (by assumption) (by exact rfl) | ktr_units); intro e' t' oe' h' tk' hX' hg' hc' hd' hM'; (try dsimp only))) | ((with_reducible show wpAny _ _ (exec (Stmt.Raise _ _ _) _) _ _ _); k_dflt (refine' raise150 ?h ?_; (case h => exact rfl); (try k_fold))) | ((with_reducible show Exists _); (rename MadeF _ _ _ _ _ _ _ _ _ => hM9); refine ⟨_, _, _, rfl, by assumption, by assumption, by assumption, by assumption, ?_⟩) | ((with_reducible show wpAny _ _ (leaving _ (Value.ref _)) _ _ _); (k_dflt first | (refine' leave_newF (hk := by rfl) ?k1 ?k2 ?_; (case k2 => assumption); (case k1 => assumption); k_whole; intro h' R' U'; (try dsimp only at R' U' ⊢)) | (refine' leave_onF ?k1 ?k2 ?k3 ?k4 ?_; (case k3 => assumption); (case k1 => assumption); (case k2 => assumption); (case k4 => assumption); k_whole; intro h' R' U'; (try dsimp only at R' U' ⊢)))) | ((with_reducible show wpAny _ _ (subscriptTail _ _ (Value.str _ _) (Value.int _ _)) _ _ _); (k_dflt (refine' item_at ?hs ?h2 ?_ (by with_unfolding_all rfl) (by intro _; with_unfolding_all rfl); (case hs => omega); (case h2 => omega); (try dsimp only)))) | (k_dflt (refine' code_def ?k1 ?k2 ?k3 ?k4 ?k5 ?kA ?kF ?kK ?k6 ?k7 ?k8 ?k9 ?kB ?_ ?c2 ?c3 ?c4 ?c5; (case kA | kF => exact rfl); (case kK => first | exact rfl | assumption); (case k1 | k2 | k3 | k4 | k5 => k_asm); (case k6 | k7 => k_is); (case k8 => first | exact room_0 (by assumption) | ktr_room); (case k9 => first | exact BindsTo.of_eq rfl | exact binds_K (by k_in) rfl (by k_is) rfl rfl rfl); (case c5 => decide); (case kB => exact locs rfl); (case c2 | c3 | c4 => exact rfl); k_whole; intro g' L' h' FG' F' N' B' X' T'; (try dsimp only); (try k_fold)))); k_steps)))
  rename News _ _ _ _ => nn
  exact hret _ _ _ _ _ _ _ _ (by (first | lia | omega)) (by first | assumption | exact fun p hp => kst_ltOf (by assumption) p hp) _ _ (by assumption) nn
theorem new_gr (w mean mg mb) (a : Addr) (ws : List (Addr × Obj)) : CallsTo w mean mg mb 4 672 ws [.ref a] fun base h₀ fr9 L m s Q E =>
    ∀ (gr g1 g2 g3 : Addr) (o1 o2 o3 : Obj), (@LT.lt Nat _ g3 g2 ∧ @LT.lt Nat _ g2 g1) → (∀ q ∈ ws, @LT.lt Nat _ q.1 g3) → RetTo h₀ L m s Q (.ref gr) ((g1, o1) :: (g2, o2) :: (g3, o3) :: ws) := by
  unfold CallsTo
  intros
  rename_i hret
  (k_steps; (try repeat' ((with_reducible refine Stop.by ?_); (first | (k_dflt (refine wpAny_call ?_; (refine' code_def ?k1 ?k2 ?k3 ?k4 ?k5 ?kA ?kF ?kK ?k6 ?k7 ?k8 ?k9 ?kB ?_ ?c2 ?c3 ?c4 ?c5; (case kA | kF => exact rfl); (case kK => first | exact rfl | assumption); (case k1 | k2 | k3 | k4 | k5 => k_asm); (case k6 | k7 => k_is); (case k8 => first | exact room_0 (by assumption) | ktr_room); (case k9 => first | exact BindsTo.of_eq rfl | exact binds_K (by k_in) rfl (by k_is) rfl rfl rfl); (case c5 => decide); (case kB => exact locs rfl); (case c2 | c3 | c4 => exact rfl); k_whole; intro g' L' h' FG' F' N' B' X' T'; (try dsimp only); (try k_fold)))) | ((with_reducible show wpAny _ _ (call (Value.ref 150) _) _ _ _); k_dflt (refine' CallsTo.use (sf_call _ _ _ _ _ _ _ _ _) ?z1 ?z2 ?z3 ?z4 ?z5 ?zK ?zd ?zu ?_; (case z1 | z2 | z3 | z4 | z5 => k_asm); (case zK => first | exact rfl | assumption); (case zd => first | exact room_d (by assumption) (by exact rfl) | exact room_e (by assumption) (by exact rfl) | ktr_room); (case zu => first | exact room_u (by assumption) (by exact rfl) | exact room_v (by assumption) (by exact rfl) | exact room_x (by assumption) (by exact rfl) | exact room_w (by assumption) (by exact rfl) | exact room_y (by assumption) (by exact rfl) | ktr_units); intro e' t' oe' h' tk' hX' hg' hc' hd' hM'; (try dsimp only))) | ((with_reducible show wpAny _ _ (exec (Stmt.Raise _ _ _) _) _ _ _); k_dflt (refine' raise150 ?h ?_; (case h => exact rfl); (try k_fold))) | ((with_reducible show Exists _); (rename MadeF _ _ _ _ _ _ _ _ _ => hM9); refine ⟨_, _, _, rfl, by assumption, by assumption, by assumption, by assumption, ?_⟩) | ((with_reducible show wpAny _ _ (leaving _ (Value.ref _)) _ _ _); (k_dflt first | (refine' leave_newF (hk := by rfl) ?k1 ?k2 ?_; (case k2 => assumption); (case k1 => assumption); k_whole; intro h' R' U'; (try dsimp only at R' U' ⊢)) | (refine' leave_onF ?k1 ?k2 ?k3 ?k4 ?_; (case k3 => assumption); (case k1 => assumption); (case k2 => assumption); (case k4 => assumption); k_whole; intro h' R' U'; (try dsimp only at R' U' ⊢)))) | ((with_reducible show wpAny _ _ (subscriptTail _ _ (Value.str _ _) (Value.int _ _)) _ _ _); (k_dflt (refine' item_at ?hs ?h2 ?_ (by with_unfolding_all rfl) (by intro _; with_unfolding_all rfl); (case hs => omega); (case h2 => omega); (try dsimp only)))) | (k_dflt (refine' code_def ?k1 ?k2 ?k3 ?k4 ?k5 ?kA ?kF ?kK ?k6 ?k7 ?k8 ?k9 ?kB ?_ ?c2 ?c3 ?c4 ?c5; (case kA | kF => exact rfl); (case kK => first | exact rfl | assumption); (case k1 | k2 | k3 | k4 | k5 => k_asm); (case k6 | k7 => k_is); (case k8 => first | exact room_0 (by assumption) | ktr_room); (case k9 => first | exact BindsTo.of_eq rfl | exact binds_K (by k_in) rfl (by k_is) rfl rfl rfl); (case c5 => decide); (case kB => exact locs rfl); (case c2 | c3 | c4 => exact rfl); k_whole; intro g' L' h' FG' F' N' B' X' T'; (try dsimp only); (try k_fold)))); k_steps)))
  rename News _ _ _ _ => nn
  exact hret _ _ _ _ _ _ _ ⟨by (first | lia | omega), by (first | lia | omega)⟩ (by first | assumption | exact fun p hp => kst_ltOf (by assumption) p hp) _ _ (by assumption) nn
local macro_rules | `(tactic| walk_at "call ref") => `(tactic| (k_here; (with_reducible show wpAny _ _ (call (Value.ref 820) _) _ _ _); refine Stop.at ?_))
local macro_rules | `(tactic| walk_at "call ref") => `(tactic| (k_here; (with_reducible show wpAny _ _ (call (Value.ref 418) _) _ _ _); refine Stop.at ?_))
local macro_rules | `(tactic| walk_at "call ref") => `(tactic| (k_here; (with_reducible show wpAny _ _ (call (Value.ref 841) _) _ _ _); refine Stop.at ?_))
local macro_rules | `(tactic| walk_at "call ref") => `(tactic| (k_here; (with_reducible show wpAny _ _ (call (Value.ref 672) _) _ _ _); refine Stop.at ?_))

set_option maxHeartbeats 1000000 in
theorem new_rd (w mean mg mb) (en eN ei b1 b2 b3 : Addr) (p0 p1 p2 p3 tt : CTok) (st : List (Addr × Obj)) (m1 : (en, instObj 623 eN) ∈ st) (m2 : (eN, dictOf [⟨PyData.keyHash w.params (Str.ofString "limits"), .str (Str.ofString "limits") p0, .ref ei⟩, ⟨PyData.keyHash w.params (Str.ofString "outer"), .str (Str.ofString "outer") p1, .ref b1⟩, ⟨PyData.keyHash w.params (Str.ofString "general"), .str (Str.ofString "general") p2, .ref b2⟩, ⟨PyData.keyHash w.params (Str.ofString "parameters"), .str (Str.ofString "parameters") p3, .ref b3⟩] 4) ∈ st) : CallsTo w mean mg mb 14 961 st [.str T2 tt, .ref en] fun base h₀ fr9 L m s Q E =>
    ∀ (gr r rD e eD rows c d fr fD fs nm : Addr) (q0 q1 q2 q3 q4 q5 q6 q7 q8 q9 qa qx qy t1 tt t2 tk : CTok) (j1 j2 j3 : Addr × Obj), (@LT.lt Nat _ rD r ∧ @LT.lt Nat _ r eD ∧ @LT.lt Nat _ eD e ∧ @LT.lt Nat _ e rows ∧ @LT.lt Nat _ rows d ∧ @LT.lt Nat _ d c ∧ @LT.lt Nat _ c fD ∧ @LT.lt Nat _ fD fr ∧ @LT.lt Nat _ fr fs ∧ @LT.lt Nat _ fs nm) → (∀ q ∈ st, @LT.lt Nat _ q.1 rD) → RetTo h₀ L m s Q (.ref r) ((nm, listOf #[] 0) :: j1 :: j2 :: j3 :: (fs, listOf #[.ref fr] 0) :: (fr, instObj 841 fD) :: (fD, dictOf [⟨PyData.keyHash w.params (Str.ofString "cursor"), .str (Str.ofString "cursor") q7, .ref c⟩, ⟨PyData.keyHash w.params (Str.ofString "name"), .str (Str.ofString "name") q8, .none⟩, ⟨PyData.keyHash w.params (Str.ofString "place"), .str (Str.ofString "place") q9, .int 0 qx⟩, ⟨PyData.keyHash w.params (Str.ofString "many"), .str (Str.ofString "many") qa, .int 0 qy⟩] 4) :: (c, instObj 418 d) :: (d, curD w.params t1 T2 tt t2 0 tk) :: (rows, listOf #[] 0) :: (e, instObj 820 eD) :: (eD, dictOf [⟨PyData.keyHash w.params (Str.ofString "rows"), .str (Str.ofString "rows") q6, .ref rows⟩] 1) :: (r, instObj 961 rD) :: (rD, dictOf [⟨PyData.keyHash w.params (Str.ofString "entities"), .str (Str.ofString "entities") q0, .ref en⟩, ⟨PyData.keyHash w.params (Str.ofString "on_doctype"), .str (Str.ofString "on_doctype") q1, .none⟩, ⟨PyData.keyHash w.params (Str.ofString "found"), .str (Str.ofString "found") q2, .ref e⟩, ⟨PyData.keyHash w.params (Str.ofString "frames"), .str (Str.ofString "frames") q3, .ref fs⟩, ⟨PyData.keyHash w.params (Str.ofString "growth"), .str (Str.ofString "growth") q4, .ref gr⟩, ⟨PyData.keyHash w.params (Str.ofString "names"), .str (Str.ofString "names") q5, .ref nm⟩] 6) :: st) := by
  unfold CallsTo
  intros
  rename_i hret
  (k_steps; (try repeat' ((with_reducible refine Stop.by ?_); (first | ((first | (with_reducible show wpAny _ _ (call (Value.ref 112) _) _ _ _) | (with_reducible show wpAny _ _ (call (Value.ref 672) _) _ _ _) | (with_reducible show wpAny _ _ (call (Value.ref 841) _) _ _ _) | (with_reducible show wpAny _ _ (call (Value.ref 418) _) _ _ _) | (with_reducible show wpAny _ _ (call (Value.ref 820) _) _ _ _)); k_dflt (refine' CallsTo.use ?zs ?z1 ?z2 ?z3 ?z4 ?z5 ?zK ?zd ?zu ?_; (case z1 | z2 | z3 | z4 | z5 => k_asm); (case zK => first | exact rfl | assumption); (case zs => first | exact (PM.use (plain_T2 _ _ _ _ _) _) | exact (new_gr _ _ _ _ _ _) | exact (new_fr _ _ _ _ _ _ _ _) | exact (new_cur _ _ _ _ _ _ _) | exact (new_ev _ _ _ _ _)); (case zd => first | exact room_d (by assumption) (by exact rfl) | exact room_e (by assumption) (by exact rfl) | ktr_room); (case zu => first | exact room_u (by assumption) (by exact rfl) | exact room_v (by assumption) (by exact rfl) | exact room_x (by assumption) (by exact rfl) | exact room_w (by assumption) (by exact rfl) | exact room_y (by assumption) (by exact rfl) | ktr_units); (try dsimp only [RetV, len_0, len_1, len_2, len_3, len_4, len_5, len_6, len_7, len_8, len_9, len_10, len_11, len_12, len_13, len_14, len_15, len_16, len_17, len_18]); (with_reducible (repeat' (first | (refine And.intro ?_ ?_) | intro))); (all_goals (try dsimp only)); (all_goals (try (rename (∀ p : Addr × Obj, _ ∈ _ → @LT.lt Nat _ _ _) => zl1; k_lt zl1))); (all_goals (try contradiction)))) | (k_dflt (refine wpAny_call ?_; (refine' code_def ?k1 ?k2 ?k3 ?k4 ?k5 ?kA ?kF ?kK ?k6 ?k7 ?k8 ?k9 ?kB ?_ ?c2 ?c3 ?c4 ?c5; (case kA | kF => exact rfl); (case kK => first | exact rfl | assumption); (case k1 | k2 | k3 | k4 | k5 => k_asm); (case k6 | k7 => k_is); (case k8 => first | exact room_0 (by assumption) | ktr_room); (case k9 => first | exact BindsTo.of_eq rfl | exact binds_K (by k_in) rfl (by k_is) rfl rfl rfl); (case c5 => decide); (case kB => exact locs rfl); (case c2 | c3 | c4 => exact rfl); k_whole; intro g' L' h' FG' F' N' B' X' T'; (try dsimp only); (try k_fold)))) | ((with_reducible show wpAny _ _ (call (Value.ref 150) _) _ _ _); k_dflt (refine' CallsTo.use (sf_call _ _ _ _ _ _ _ _ _) ?z1 ?z2 ?z3 ?z4 ?z5 ?zK ?zd ?zu ?_; (case z1 | z2 | z3 | z4 | z5 => k_asm); (case zK => first | exact rfl | assumption); (case zd => first | exact room_d (by assumption) (by exact rfl) | exact room_e (by assumption) (by exact rfl) | ktr_room); (case zu => first | exact room_u (by assumption) (by exact rfl) | exact room_v (by assumption) (by exact rfl) | exact room_x (by assumption) (by exact rfl) | exact room_w (by assumption) (by exact rfl) | exact room_y (by assumption) (by exact rfl) | ktr_units); intro e' t' oe' h' tk' hX' hg' hc' hd' hM'; (try dsimp only))) | ((with_reducible show wpAny _ _ (exec (Stmt.Raise _ _ _) _) _ _ _); k_dflt (refine' raise150 ?h ?_; (case h => exact rfl); (try k_fold))) | ((with_reducible show Exists _); (rename MadeF _ _ _ _ _ _ _ _ _ => hM9); refine ⟨_, _, _, rfl, by assumption, by assumption, by assumption, by assumption, ?_⟩) | ((with_reducible show wpAny _ _ (leaving _ (Value.ref _)) _ _ _); (k_dflt first | (refine' leave_newF (hk := by rfl) ?k1 ?k2 ?_; (case k2 => assumption); (case k1 => assumption); k_whole; intro h' R' U'; (try dsimp only at R' U' ⊢)) | (refine' leave_onF ?k1 ?k2 ?k3 ?k4 ?_; (case k3 => assumption); (case k1 => assumption); (case k2 => assumption); (case k4 => assumption); k_whole; intro h' R' U'; (try dsimp only at R' U' ⊢)))) | ((with_reducible show wpAny _ _ (subscriptTail _ _ (Value.str _ _) (Value.int _ _)) _ _ _); (k_dflt (refine' item_at ?hs ?h2 ?_ (by with_unfolding_all rfl) (by intro _; with_unfolding_all rfl); (case hs => omega); (case h2 => omega); (try dsimp only)))) | (k_dflt (refine' code_def ?k1 ?k2 ?k3 ?k4 ?k5 ?kA ?kF ?kK ?k6 ?k7 ?k8 ?k9 ?kB ?_ ?c2 ?c3 ?c4 ?c5; (case kA | kF => exact rfl); (case kK => first | exact rfl | assumption); (case k1 | k2 | k3 | k4 | k5 => k_asm); (case k6 | k7 => k_is); (case k8 => first | exact room_0 (by assumption) | ktr_room); (case k9 => first | exact BindsTo.of_eq rfl | exact binds_K (by k_in) rfl (by k_is) rfl rfl rfl); (case c5 => decide); (case kB => exact locs rfl); (case c2 | c3 | c4 => exact rfl); k_whole; intro g' L' h' FG' F' N' B' X' T'; (try dsimp only); (try k_fold)))); k_steps)))
  rename News _ _ _ _ => nn
  exact hret _ _ _ _ _ _ _ _ _ _ _ _ _ _ _ _ _ _ _ _ _ _ _ _ _ _ _ _ _ _ _ _ ⟨by omega, by omega, by omega, by omega, by omega, by omega, by omega, by omega, by omega, by omega⟩ (by first | assumption | exact fun p hp => kst_ltOf (by assumption) p hp) _ _ (by assumption) nn
end Mine
end -- Rh
end -- reader
namespace Mine
section
variable {M : Model} {A : Around} {E : Value → Shared → Prop} {s : Shared} {env : Env} {h₀ : Heap} {L : Addr} {m : Str → Option Value} {led : List (Addr × Obj)}
theorem seq_then {X : Sem Flow} {Post : Flow → Shared → Prop} (P : Shared → Prop) (h1 : wpAny M A X (fun f s' => f = .next ∧ P s') E s) (h2 : ∀ s', P s' → Post .next s') : wpAny M A X Post E s :=
  wpAny_mono h1 (fun f s' p => by obtain ⟨rfl, p⟩ := p; exact h2 s' p) fun _ _ x => x
/-- a state of the law's frame: the script bound, the ledger led -/
noncomputable def LawAt (h₀ : Heap) (L : Addr) (sc : Addr) (led : List (Addr × Obj)) (s s' : Shared) : Prop :=
  ∃ (h : Heap) (tk : Nat) (m : Str → Option Value), s' = { s with heap := h, toks := tk } ∧ Fr h₀ L h (fun y => if y = Str.ofString "script" then some (.ref sc) else m y) ∧ News h₀ L h led
theorem LawAt.of {sc : Addr} {m : Str → Option Value} {h : Heap} {tk : Nat} {all : List (Addr × Obj)} (F : Fr h₀ L h m) (hm : m (Str.ofString "script") = some (.ref sc)) (N : News h₀ L h all) (hs : ∀ p ∈ led, p ∈ all) : LawAt h₀ L sc led s { s with heap := h, toks := tk } :=
  ⟨h, tk, m, rfl, by
    have em : (fun y => if y = Str.ofString "script" then some (Value.ref sc) else m y) = m := by
      funext y
      by_cases h : y = Str.ofString "script"
      · rw [if_pos h, h, hm]
      · rw [if_neg h]
    rw [em]; exact F, fun p hp => N p (hs p hp)⟩
theorem law_next {sc : Addr} {R : Shared → Prop} (h : ∀ (h : Heap) (tk : Nat) (m : Str → Option Value), Fr h₀ L h (fun y => if y = Str.ofString "script" then some (.ref sc) else m y) → News h₀ L h led → R { s with heap := h, toks := tk }) :
    ∀ s', LawAt h₀ L sc led s s' → R s' := by
  rintro s' ⟨h1, tk, m, rfl, F, N⟩
  exact h h1 tk m F N
end
end Mine
namespace Mine
section
variable {M : Model} {A : Around} {E : Value → Shared → Prop} {s : Shared} {env : Env} {h₀ h : Heap} {L : Addr} {m : Str → Option Value} {all : List (Addr × Obj)} {w : World}
noncomputable def vmap : List (Str × Value) → (Str → Option Value) → Str → Option Value
  | [], m => m
  | (x, v) :: r, m => fun y => if y = x then some v else vmap r m y
noncomputable def VarsIn (m : Str → Option Value) : List (Str × Value) → Prop
  | [] => True
  | (x, v) :: r => m x = some v ∧ VarsIn m r
theorem vmap_eq : ∀ (l : List (Str × Value)), VarsIn m l → vmap l m = m
  | [], _ => rfl
  | (x, v) :: r, ⟨h, hr⟩ => by
    funext y
    simp only [vmap, vmap_eq r hr]
    by_cases e : y = x
    · rw [if_pos e, e, h]
    · rw [if_neg e]
/-- a state of the law's frame: some names are bound, the ledger led -/
noncomputable def LawAtV (h₀ : Heap) (L : Addr) (vars : List (Str × Value)) (led : List (Addr × Obj)) (s s' : Shared) : Prop :=
  ∃ (h : Heap) (tk : Nat) (m : Str → Option Value), s' = { s with heap := h, toks := tk } ∧ Fr h₀ L h (vmap vars m) ∧ News h₀ L h led
theorem LawAtV.of {vars : List (Str × Value)} {led : List (Addr × Obj)} {tk : Nat} (F : Fr h₀ L h m) (hv : VarsIn m vars) (N : News h₀ L h all) (hs : ∀ p ∈ led, p ∈ all) : LawAtV h₀ L vars led s { s with heap := h, toks := tk } :=
  ⟨h, tk, m, rfl, by rw [vmap_eq vars hv]; exact F, fun p hp => N p (hs p hp)⟩
theorem lawv_next {vars : List (Str × Value)} {led : List (Addr × Obj)} {R : Shared → Prop} (h : ∀ (h : Heap) (tk : Nat) (m : Str → Option Value), Fr h₀ L h (vmap vars m) → News h₀ L h led → R { s with heap := h, toks := tk }) :
    ∀ s', LawAtV h₀ L vars led s s' → R s' := by
  rintro s' ⟨h1, tk, m, rfl, F, N⟩
  exact h h1 tk m F N
theorem sub2 {α : Type} {n j1 j2 j3 fs fr fD c d ro e eD r rD z1 z2 z3 z4 z5 z6 z7 : α} {rest : List α} : ∀ p ∈ d :: ro :: n :: fs :: fr :: fD :: c :: e :: eD :: r :: rD :: rest, p ∈ n :: j1 :: j2 :: j3 :: fs :: fr :: fD :: c :: d :: ro :: e :: eD :: r :: rD :: z1 :: z2 :: z3 :: z4 :: z5 :: z6 :: z7 :: rest :=
  sub_cons (.tail _ <| .tail _ <| .tail _ <| .tail _ <| .tail _ <| .tail _ <| .tail _ <| .tail _ <| .head _) <| sub_cons (.tail _ <| .tail _ <| .tail _ <| .tail _ <| .tail _ <| .tail _ <| .tail _ <| .tail _ <| .tail _ <| .head _) <| sub_cons (.head _) <| sub_cons (.tail _ <| .tail _ <| .tail _ <| .tail _ <| .head _) <| sub_cons (.tail _ <| .tail _ <| .tail _ <| .tail _ <| .tail _ <| .head _) <| sub_cons (.tail _ <| .tail _ <| .tail _ <| .tail _ <| .tail _ <| .tail _ <| .head _) <| sub_cons (.tail _ <| .tail _ <| .tail _ <| .tail _ <| .tail _ <| .tail _ <| .tail _ <| .head _) <| sub_cons (.tail _ <| .tail _ <| .tail _ <| .tail _ <| .tail _ <| .tail _ <| .tail _ <| .tail _ <| .tail _ <| .tail _ <| .head _) <| sub_cons (.tail _ <| .tail _ <| .tail _ <| .tail _ <| .tail _ <| .tail _ <| .tail _ <| .tail _ <| .tail _ <| .tail _ <| .tail _ <| .head _) <| sub_cons (.tail _ <| .tail _ <| .tail _ <| .tail _ <| .tail _ <| .tail _ <| .tail _ <| .tail _ <| .tail _ <| .tail _ <| .tail _ <| .tail _ <| .head _) <| sub_cons (.tail _ <| .tail _ <| .tail _ <| .tail _ <| .tail _ <| .tail _ <| .tail _ <| .tail _ <| .tail _ <| .tail _ <| .tail _ <| .tail _ <| .tail _ <| .head _) <| fun _ hp => .tail _ <| .tail _ <| .tail _ <| .tail _ <| .tail _ <| .tail _ <| .tail _ <| .tail _ <| .tail _ <| .tail _ <| .tail _ <| .tail _ <| .tail _ <| .tail _ <| .tail _ <| .tail _ <| .tail _ <| .tail _ <| .tail _ <| .tail _ <| .tail _ <| hp
theorem sub3 {α : Type} {x1 x2 d ro n : α} {rest : List α} : ∀ p ∈ d :: ro :: n :: x1 :: x2 :: rest, p ∈ x1 :: x2 :: d :: ro :: n :: rest :=
  sub_cons (.tail _ <| .tail _ <| .head _) <| sub_cons (.tail _ <| .tail _ <| .tail _ <| .head _) <| sub_cons (.tail _ <| .tail _ <| .tail _ <| .tail _ <| .head _) <| sub_cons (.head _) <| sub_cons (.tail _ <| .head _) <| fun _ hp => .tail _ <| .tail _ <| .tail _ <| .tail _ <| .tail _ <| hp
theorem sub4 {α : Type} {x1 x2 x3 x4 x5 x6 d ro n : α} {rest : List α} : ∀ p ∈ d :: ro :: n :: x1 :: x2 :: x3 :: x4 :: x5 :: x6 :: rest, p ∈ x1 :: x2 :: x3 :: x4 :: x5 :: x6 :: d :: ro :: n :: rest :=
  sub_cons (.tail _ <| .tail _ <| .tail _ <| .tail _ <| .tail _ <| .tail _ <| .head _) <| sub_cons (.tail _ <| .tail _ <| .tail _ <| .tail _ <| .tail _ <| .tail _ <| .tail _ <| .head _) <| sub_cons (.tail _ <| .tail _ <| .tail _ <| .tail _ <| .tail _ <| .tail _ <| .tail _ <| .tail _ <| .head _) <| sub_cons (.head _) <| sub_cons (.tail _ <| .head _) <| sub_cons (.tail _ <| .tail _ <| .head _) <| sub_cons (.tail _ <| .tail _ <| .tail _ <| .head _) <| sub_cons (.tail _ <| .tail _ <| .tail _ <| .tail _ <| .head _) <| sub_cons (.tail _ <| .tail _ <| .tail _ <| .tail _ <| .tail _ <| .head _) <| fun _ hp => .tail _ <| .tail _ <| .tail _ <| .tail _ <| .tail _ <| .tail _ <| .tail _ <| .tail _ <| .tail _ <| hp
theorem off_lo {x : Addr × Obj} {t : List (Addr × Obj)} {d e f : Addr} (l0 : @LT.lt Nat _ e d) (l1 : @LT.lt Nat _ d f) (a : @LT.lt Nat _ x.1 e) (h : OwnOff t [d, e, f]) : OwnOff (x :: t) [d, e, f] :=
  off_one h (Nat.ne_of_lt (Nat.lt_trans a l0)) (Nat.ne_of_lt a) (Nat.ne_of_lt (Nat.lt_trans a (Nat.lt_trans l0 l1)))
theorem off_hi {x : Addr × Obj} {t : List (Addr × Obj)} {d e f : Addr} (l0 : @LT.lt Nat _ e d) (a : @LT.lt Nat _ d x.1) (b : @LT.lt Nat _ x.1 f) (h : OwnOff t [d, e, f]) : OwnOff (x :: t) [d, e, f] :=
  off_one h (Nat.ne_of_gt a) (Nat.ne_of_gt (Nat.lt_trans l0 a)) (Nat.ne_of_lt b)
theorem off_hh {x : Addr × Obj} {t : List (Addr × Obj)} {d e f : Addr} (l0 : @LT.lt Nat _ e d) (l1 : @LT.lt Nat _ d f) (a : @LT.lt Nat _ f x.1) (h : OwnOff t [d, e, f]) : OwnOff (x :: t) [d, e, f] :=
  off_one h (Nat.ne_of_gt (Nat.lt_trans l1 a)) (Nat.ne_of_gt (Nat.lt_trans l0 (Nat.lt_trans l1 a))) (Nat.ne_of_gt a)
theorem news_sub {l l' : List (Addr × Obj)} (N : News h₀ L h l) (hs : ∀ p ∈ l', p ∈ l) : News h₀ L h l' := fun p hp => N p (hs p hp)
inductive Rd2 (w : World) (h₀ : Heap) (L sc : Addr) (rest : List (Addr × Obj)) (s s' : Shared) : Prop
  | mk (en gr r rD e eD rows c d fr fD fs nm : Addr) (q0 q1 q2 q3 q4 q5 q6 q7 q8 q9 qa qx qy t1 tt t2 tk : CTok) (st : List (Addr × Obj)) (l0 : @LT.lt Nat _ rows d) (l1 : @LT.lt Nat _ d nm) (hs : OwnOff st [d, rows, nm]) (m1 : (r, instObj 961 rD) ∈ st) (m2 : (rD, dictOf [⟨PyData.keyHash w.params (Str.ofString "entities"), .str (Str.ofString "entities") q0, .ref en⟩, ⟨PyData.keyHash w.params (Str.ofString "on_doctype"), .str (Str.ofString "on_doctype") q1, .none⟩, ⟨PyData.keyHash w.params (Str.ofString "found"), .str (Str.ofString "found") q2, .ref e⟩, ⟨PyData.keyHash w.params (Str.ofString "frames"), .str (Str.ofString "frames") q3, .ref fs⟩, ⟨PyData.keyHash w.params (Str.ofString "growth"), .str (Str.ofString "growth") q4, .ref gr⟩, ⟨PyData.keyHash w.params (Str.ofString "names"), .str (Str.ofString "names") q5, .ref nm⟩] 6) ∈ st) (m3 : (e, instObj 820 eD) ∈ st) (m4 : (eD, dictOf [⟨PyData.keyHash w.params (Str.ofString "rows"), .str (Str.ofString "rows") q6, .ref rows⟩] 1) ∈ st) (m5 : (fs, listOf #[.ref fr] 0) ∈ st) (m6 : (fr, instObj 841 fD) ∈ st) (m7 : (fD, dictOf [⟨PyData.keyHash w.params (Str.ofString "cursor"), .str (Str.ofString "cursor") q7, .ref c⟩, ⟨PyData.keyHash w.params (Str.ofString "name"), .str (Str.ofString "name") q8, .none⟩, ⟨PyData.keyHash w.params (Str.ofString "place"), .str (Str.ofString "place") q9, .int 0 qx⟩, ⟨PyData.keyHash w.params (Str.ofString "many"), .str (Str.ofString "many") qa, .int 0 qy⟩] 4) ∈ st) (m8 : (c, instObj 418 d) ∈ st) (hc : ∀ p ∈ rest, p ∈ st) (hx : LawAtV h₀ L [(Str.ofString "script", .ref sc), (Str.ofString "reader", .ref r)] ((d, curD w.params t1 T2 tt t2 0 tk) :: (rows, listOf (#[]) (0)) :: (nm, listOf (#[]) (0)) :: st) s s')
inductive Rd3 (w : World) (h₀ : Heap) (L sc : Addr) (rest : List (Addr × Obj)) (s s' : Shared) : Prop
  | mk (en gr r rD e eD rows c d fr fD fs nm : Addr) (q0 q1 q2 q3 q4 q5 q6 q7 q8 q9 qa qx qy t1 tt t2 tk : CTok) (st : List (Addr × Obj)) (a0 l : Addr) (nL : Nat) (ua0 ua1 ua2 : CTok) (l0 : @LT.lt Nat _ rows d) (l1 : @LT.lt Nat _ d nm) (hs : OwnOff st [d, rows, nm]) (m1 : (r, instObj 961 rD) ∈ st) (m2 : (rD, dictOf [⟨PyData.keyHash w.params (Str.ofString "entities"), .str (Str.ofString "entities") q0, .ref en⟩, ⟨PyData.keyHash w.params (Str.ofString "on_doctype"), .str (Str.ofString "on_doctype") q1, .none⟩, ⟨PyData.keyHash w.params (Str.ofString "found"), .str (Str.ofString "found") q2, .ref e⟩, ⟨PyData.keyHash w.params (Str.ofString "frames"), .str (Str.ofString "frames") q3, .ref fs⟩, ⟨PyData.keyHash w.params (Str.ofString "growth"), .str (Str.ofString "growth") q4, .ref gr⟩, ⟨PyData.keyHash w.params (Str.ofString "names"), .str (Str.ofString "names") q5, .ref nm⟩] 6) ∈ st) (m3 : (e, instObj 820 eD) ∈ st) (m4 : (eD, dictOf [⟨PyData.keyHash w.params (Str.ofString "rows"), .str (Str.ofString "rows") q6, .ref rows⟩] 1) ∈ st) (m5 : (fs, listOf #[.ref fr] 0) ∈ st) (m6 : (fr, instObj 841 fD) ∈ st) (m7 : (fD, dictOf [⟨PyData.keyHash w.params (Str.ofString "cursor"), .str (Str.ofString "cursor") q7, .ref c⟩, ⟨PyData.keyHash w.params (Str.ofString "name"), .str (Str.ofString "name") q8, .none⟩, ⟨PyData.keyHash w.params (Str.ofString "place"), .str (Str.ofString "place") q9, .int 0 qx⟩, ⟨PyData.keyHash w.params (Str.ofString "many"), .str (Str.ofString "many") qa, .int 0 qy⟩] 4) ∈ st) (m8 : (c, instObj 418 d) ∈ st) (m9 : (a0, tupO [.str (Str.ofString "instruction") ua0, .str (Str.ofString "p") ua1, .str (Str.ofString "q") ua2]) ∈ st) (m10 : (l, listOf #[.ref a0] nL) ∈ st) (hc : ∀ p ∈ rest, p ∈ st) (hx : LawAtV h₀ L [(Str.ofString "script", .ref sc), (Str.ofString "reader", .ref r), (Str.ofString "told", .ref l)] ((d, curD w.params t1 T2 tt t2 ((7 : Nat) : Int) tk) :: (rows, listOf (#[.ref a0]) (1)) :: (nm, listOf (#[]) (0)) :: st) s s')
inductive Rd4 (w : World) (h₀ : Heap) (L sc : Addr) (rest : List (Addr × Obj)) (s s' : Shared) : Prop
  | mk (en gr r rD e eD rows c d fr fD fs nm : Addr) (q0 q1 q2 q3 q4 q5 q6 q7 q8 q9 qa qx qy t1 tt t2 tk : CTok) (st : List (Addr × Obj)) (a0 l : Addr) (nL : Nat) (ua0 ua1 ua2 : CTok) (wl w0 w1 w2 w3 wa : Addr) (x0 x1 x2 x3 x4 x5 x6 x7 x8 : CTok) (l0 : @LT.lt Nat _ rows d) (l1 : @LT.lt Nat _ d nm) (hs : OwnOff st [d, rows, nm]) (m1 : (r, instObj 961 rD) ∈ st) (m2 : (rD, dictOf [⟨PyData.keyHash w.params (Str.ofString "entities"), .str (Str.ofString "entities") q0, .ref en⟩, ⟨PyData.keyHash w.params (Str.ofString "on_doctype"), .str (Str.ofString "on_doctype") q1, .none⟩, ⟨PyData.keyHash w.params (Str.ofString "found"), .str (Str.ofString "found") q2, .ref e⟩, ⟨PyData.keyHash w.params (Str.ofString "frames"), .str (Str.ofString "frames") q3, .ref fs⟩, ⟨PyData.keyHash w.params (Str.ofString "growth"), .str (Str.ofString "growth") q4, .ref gr⟩, ⟨PyData.keyHash w.params (Str.ofString "names"), .str (Str.ofString "names") q5, .ref nm⟩] 6) ∈ st) (m3 : (e, instObj 820 eD) ∈ st) (m4 : (eD, dictOf [⟨PyData.keyHash w.params (Str.ofString "rows"), .str (Str.ofString "rows") q6, .ref rows⟩] 1) ∈ st) (m5 : (fs, listOf #[.ref fr] 0) ∈ st) (m6 : (fr, instObj 841 fD) ∈ st) (m7 : (fD, dictOf [⟨PyData.keyHash w.params (Str.ofString "cursor"), .str (Str.ofString "cursor") q7, .ref c⟩, ⟨PyData.keyHash w.params (Str.ofString "name"), .str (Str.ofString "name") q8, .none⟩, ⟨PyData.keyHash w.params (Str.ofString "place"), .str (Str.ofString "place") q9, .int 0 qx⟩, ⟨PyData.keyHash w.params (Str.ofString "many"), .str (Str.ofString "many") qa, .int 0 qy⟩] 4) ∈ st) (m8 : (c, instObj 418 d) ∈ st) (m9 : (a0, tupO [.str (Str.ofString "instruction") ua0, .str (Str.ofString "p") ua1, .str (Str.ofString "q") ua2]) ∈ st) (m10 : (l, listOf #[.ref a0] nL) ∈ st) (v1 : (wl, listOf #[.ref w0, .ref w1, .ref w2, .ref w3] 0) ∈ st) (v2 : (w3, tupO [.str (Str.ofString "end") x0, .str (Str.ofString "a") x1]) ∈ st) (v3 : (w2, tupO [.str (Str.ofString "text") x2, .str (Str.ofString "x") x3]) ∈ st) (v4 : (w1, tupO [.str (Str.ofString "start") x4, .str (Str.ofString "a") x5, .ref wa]) ∈ st) (v5 : (wa, tupO []) ∈ st) (v6 : (w0, tupO [.str (Str.ofString "instruction") x6, .str (Str.ofString "p") x7, .str (Str.ofString "q") x8]) ∈ st) (hc : ∀ p ∈ rest, p ∈ st) (hx : LawAtV h₀ L [(Str.ofString "script", .ref sc), (Str.ofString "reader", .ref r), (Str.ofString "told", .ref l), (Str.ofString "whole", .ref wl)] ((d, curD w.params t1 T2 tt t2 ((7 : Nat) : Int) tk) :: (rows, listOf (#[.ref a0]) (1)) :: (nm, listOf (#[]) (0)) :: st) s s')
theorem Rd2.of {en gr r rD e eD rows c d fr fD fs nm sc : Addr} {q0 q1 q2 q3 q4 q5 q6 q7 q8 q9 qa qx qy t1 tt t2 tk : CTok} {rest : List (Addr × Obj)} {j1 j2 j3 z1 z2 z3 z4 z5 z6 z7 : Addr × Obj} {tk9 : Nat} (F : Fr h₀ L h m) (v1 : m (Str.ofString "script") = some (.ref sc)) (v2 : m (Str.ofString "reader") = some (.ref r))
    (N : News h₀ L h ((nm, listOf #[] 0) :: j1 :: j2 :: j3 :: (fs, listOf #[.ref fr] 0) :: (fr, instObj 841 fD) :: (fD, dictOf [⟨PyData.keyHash w.params (Str.ofString "cursor"), .str (Str.ofString "cursor") q7, .ref c⟩, ⟨PyData.keyHash w.params (Str.ofString "name"), .str (Str.ofString "name") q8, .none⟩, ⟨PyData.keyHash w.params (Str.ofString "place"), .str (Str.ofString "place") q9, .int 0 qx⟩, ⟨PyData.keyHash w.params (Str.ofString "many"), .str (Str.ofString "many") qa, .int 0 qy⟩] 4) :: (c, instObj 418 d) :: (d, curD w.params t1 T2 tt t2 0 tk) :: (rows, listOf #[] 0) :: (e, instObj 820 eD) :: (eD, dictOf [⟨PyData.keyHash w.params (Str.ofString "rows"), .str (Str.ofString "rows") q6, .ref rows⟩] 1) :: (r, instObj 961 rD) :: (rD, dictOf [⟨PyData.keyHash w.params (Str.ofString "entities"), .str (Str.ofString "entities") q0, .ref en⟩, ⟨PyData.keyHash w.params (Str.ofString "on_doctype"), .str (Str.ofString "on_doctype") q1, .none⟩, ⟨PyData.keyHash w.params (Str.ofString "found"), .str (Str.ofString "found") q2, .ref e⟩, ⟨PyData.keyHash w.params (Str.ofString "frames"), .str (Str.ofString "frames") q3, .ref fs⟩, ⟨PyData.keyHash w.params (Str.ofString "growth"), .str (Str.ofString "growth") q4, .ref gr⟩, ⟨PyData.keyHash w.params (Str.ofString "names"), .str (Str.ofString "names") q5, .ref nm⟩] 6) :: z1 :: z2 :: z3 :: z4 :: z5 :: z6 :: z7 :: rest)) (hl : @LT.lt Nat _ rD r ∧ @LT.lt Nat _ r eD ∧ @LT.lt Nat _ eD e ∧ @LT.lt Nat _ e rows ∧ @LT.lt Nat _ rows d ∧ @LT.lt Nat _ d c ∧ @LT.lt Nat _ c fD ∧ @LT.lt Nat _ fD fr ∧ @LT.lt Nat _ fr fs ∧ @LT.lt Nat _ fs nm) (hr : OwnOff rest [d, rows, nm]) : Rd2 w h₀ L sc rest s { s with heap := h, toks := tk9 } := by
  obtain ⟨g0, g1, g2, g3, g4, g5, g6, g7, g8, g9⟩ := hl
  have hN : News h₀ L h ((d, curD w.params t1 T2 tt t2 0 tk) :: (rows, listOf #[] 0) :: (nm, listOf #[] 0) :: (fs, listOf #[.ref fr] 0) :: (fr, instObj 841 fD) :: (fD, dictOf [⟨PyData.keyHash w.params (Str.ofString "cursor"), .str (Str.ofString "cursor") q7, .ref c⟩, ⟨PyData.keyHash w.params (Str.ofString "name"), .str (Str.ofString "name") q8, .none⟩, ⟨PyData.keyHash w.params (Str.ofString "place"), .str (Str.ofString "place") q9, .int 0 qx⟩, ⟨PyData.keyHash w.params (Str.ofString "many"), .str (Str.ofString "many") qa, .int 0 qy⟩] 4) :: (c, instObj 418 d) :: (e, instObj 820 eD) :: (eD, dictOf [⟨PyData.keyHash w.params (Str.ofString "rows"), .str (Str.ofString "rows") q6, .ref rows⟩] 1) :: (r, instObj 961 rD) :: (rD, dictOf [⟨PyData.keyHash w.params (Str.ofString "entities"), .str (Str.ofString "entities") q0, .ref en⟩, ⟨PyData.keyHash w.params (Str.ofString "on_doctype"), .str (Str.ofString "on_doctype") q1, .none⟩, ⟨PyData.keyHash w.params (Str.ofString "found"), .str (Str.ofString "found") q2, .ref e⟩, ⟨PyData.keyHash w.params (Str.ofString "frames"), .str (Str.ofString "frames") q3, .ref fs⟩, ⟨PyData.keyHash w.params (Str.ofString "growth"), .str (Str.ofString "growth") q4, .ref gr⟩, ⟨PyData.keyHash w.params (Str.ofString "names"), .str (Str.ofString "names") q5, .ref nm⟩] 6) :: rest) := by
    exact news_sub N sub2
  have u2 := Nat.lt_trans g2 g3
  have u1 := Nat.lt_trans g1 u2
  have u0 := Nat.lt_trans g0 u1
  have w6 := Nat.lt_trans g5 g6
  have w7 := Nat.lt_trans w6 g7
  have w8 := Nat.lt_trans w7 g8
  have y8 := Nat.lt_trans g8 g9
  have y7 := Nat.lt_trans g7 y8
  have y6 := Nat.lt_trans g6 y7
  have l1 := Nat.lt_trans g5 y6
  exact Rd2.mk en gr r rD e eD rows c d fr fD fs nm q0 q1 q2 q3 q4 q5 q6 q7 q8 q9 qa qx qy t1 tt t2 tk _ g4 l1 (off_hi g4 w8 g9 <| off_hi g4 w7 y8 <| off_hi g4 w6 y7 <| off_hi g4 g5 y6 <| off_lo g4 l1 g3 <| off_lo g4 l1 u2 <| off_lo g4 l1 u1 <| off_lo g4 l1 u0 hr) (.tail _ <| .tail _ <| .tail _ <| .tail _ <| .tail _ <| .tail _ <| .head _) (.tail _ <| .tail _ <| .tail _ <| .tail _ <| .tail _ <| .tail _ <| .tail _ <| .head _) (.tail _ <| .tail _ <| .tail _ <| .tail _ <| .head _) (.tail _ <| .tail _ <| .tail _ <| .tail _ <| .tail _ <| .head _) (.head _) (.tail _ <| .head _) (.tail _ <| .tail _ <| .head _) (.tail _ <| .tail _ <| .tail _ <| .head _) (fun p hp => .tail _ <| .tail _ <| .tail _ <| .tail _ <| .tail _ <| .tail _ <| .tail _ <| .tail _ <| hp) (LawAtV.of F ⟨v1, v2, trivial⟩ hN (fun _ hp => hp))
theorem Rd3.of {en gr r rD e eD rows c d fr fD fs nm sc a0 l : Addr} {q0 q1 q2 q3 q4 q5 q6 q7 q8 q9 qa qx qy t1 tt t2 tk ua0 ua1 ua2 : CTok} {nL : Nat} {rest st : List (Addr × Obj)} {tk9 : Nat} (F : Fr h₀ L h m) (v1 : m (Str.ofString "script") = some (.ref sc)) (v2 : m (Str.ofString "reader") = some (.ref r)) (v3 : m (Str.ofString "told") = some (.ref l))
    (N : News h₀ L h ((l, listOf #[.ref a0] nL) :: (a0, tupO [.str (Str.ofString "instruction") ua0, .str (Str.ofString "p") ua1, .str (Str.ofString "q") ua2]) :: (d, curD w.params t1 T2 tt t2 ((7 : Nat) : Int) tk) :: (rows, listOf (#[.ref a0]) (1)) :: (nm, listOf (#[]) (0)) :: st)) (l0 : @LT.lt Nat _ rows d) (l1 : @LT.lt Nat _ d nm) (hs : OwnOff st [d, rows, nm]) (m1 : (r, instObj 961 rD) ∈ st) (m2 : (rD, dictOf [⟨PyData.keyHash w.params (Str.ofString "entities"), .str (Str.ofString "entities") q0, .ref en⟩, ⟨PyData.keyHash w.params (Str.ofString "on_doctype"), .str (Str.ofString "on_doctype") q1, .none⟩, ⟨PyData.keyHash w.params (Str.ofString "found"), .str (Str.ofString "found") q2, .ref e⟩, ⟨PyData.keyHash w.params (Str.ofString "frames"), .str (Str.ofString "frames") q3, .ref fs⟩, ⟨PyData.keyHash w.params (Str.ofString "growth"), .str (Str.ofString "growth") q4, .ref gr⟩, ⟨PyData.keyHash w.params (Str.ofString "names"), .str (Str.ofString "names") q5, .ref nm⟩] 6) ∈ st) (m3 : (e, instObj 820 eD) ∈ st) (m4 : (eD, dictOf [⟨PyData.keyHash w.params (Str.ofString "rows"), .str (Str.ofString "rows") q6, .ref rows⟩] 1) ∈ st) (m5 : (fs, listOf #[.ref fr] 0) ∈ st) (m6 : (fr, instObj 841 fD) ∈ st) (m7 : (fD, dictOf [⟨PyData.keyHash w.params (Str.ofString "cursor"), .str (Str.ofString "cursor") q7, .ref c⟩, ⟨PyData.keyHash w.params (Str.ofString "name"), .str (Str.ofString "name") q8, .none⟩, ⟨PyData.keyHash w.params (Str.ofString "place"), .str (Str.ofString "place") q9, .int 0 qx⟩, ⟨PyData.keyHash w.params (Str.ofString "many"), .str (Str.ofString "many") qa, .int 0 qy⟩] 4) ∈ st) (m8 : (c, instObj 418 d) ∈ st) (hc : ∀ p ∈ rest, p ∈ st) (h1 : @LT.lt Nat _ nm a0) (h2 : @LT.lt Nat _ nm l) : Rd3 w h₀ L sc rest s { s with heap := h, toks := tk9 } := by
  have hN : News h₀ L h ((d, curD w.params t1 T2 tt t2 ((7 : Nat) : Int) tk) :: (rows, listOf (#[.ref a0]) (1)) :: (nm, listOf (#[]) (0)) :: (l, listOf #[.ref a0] nL) :: (a0, tupO [.str (Str.ofString "instruction") ua0, .str (Str.ofString "p") ua1, .str (Str.ofString "q") ua2]) :: st) := by
    exact news_sub N sub3
  exact Rd3.mk en gr r rD e eD rows c d fr fD fs nm q0 q1 q2 q3 q4 q5 q6 q7 q8 q9 qa qx qy t1 tt t2 tk _ a0 l nL ua0 ua1 ua2 l0 l1 (off_hh l0 l1 h2 <| off_hh l0 l1 h1 hs) (.tail _ (.tail _ m1)) (.tail _ (.tail _ m2)) (.tail _ (.tail _ m3)) (.tail _ (.tail _ m4)) (.tail _ (.tail _ m5)) (.tail _ (.tail _ m6)) (.tail _ (.tail _ m7)) (.tail _ (.tail _ m8)) (.tail _ (.head _)) (.head _) (fun p hp => .tail _ (.tail _ (hc p hp))) (LawAtV.of F ⟨v1, v2, v3, trivial⟩ hN (fun _ hp => hp))
theorem Rd4.of {en gr r rD e eD rows c d fr fD fs nm sc a0 l wl w0 w1 w2 w3 wa : Addr} {q0 q1 q2 q3 q4 q5 q6 q7 q8 q9 qa qx qy t1 tt t2 tk ua0 ua1 ua2 x0 x1 x2 x3 x4 x5 x6 x7 x8 : CTok} {nL : Nat} {rest st : List (Addr × Obj)} {tk9 : Nat} (F : Fr h₀ L h m) (v1 : m (Str.ofString "script") = some (.ref sc)) (v2 : m (Str.ofString "reader") = some (.ref r)) (v3 : m (Str.ofString "told") = some (.ref l)) (v4 : m (Str.ofString "whole") = some (.ref wl))
    (N : News h₀ L h ((wl, listOf #[.ref w0, .ref w1, .ref w2, .ref w3] 0) :: (w3, tupO [.str (Str.ofString "end") x0, .str (Str.ofString "a") x1]) :: (w2, tupO [.str (Str.ofString "text") x2, .str (Str.ofString "x") x3]) :: (w1, tupO [.str (Str.ofString "start") x4, .str (Str.ofString "a") x5, .ref wa]) :: (wa, tupO []) :: (w0, tupO [.str (Str.ofString "instruction") x6, .str (Str.ofString "p") x7, .str (Str.ofString "q") x8]) :: (d, curD w.params t1 T2 tt t2 ((7 : Nat) : Int) tk) :: (rows, listOf (#[.ref a0]) (1)) :: (nm, listOf (#[]) (0)) :: st)) (l0 : @LT.lt Nat _ rows d) (l1 : @LT.lt Nat _ d nm) (hs : OwnOff st [d, rows, nm]) (m1 : (r, instObj 961 rD) ∈ st) (m2 : (rD, dictOf [⟨PyData.keyHash w.params (Str.ofString "entities"), .str (Str.ofString "entities") q0, .ref en⟩, ⟨PyData.keyHash w.params (Str.ofString "on_doctype"), .str (Str.ofString "on_doctype") q1, .none⟩, ⟨PyData.keyHash w.params (Str.ofString "found"), .str (Str.ofString "found") q2, .ref e⟩, ⟨PyData.keyHash w.params (Str.ofString "frames"), .str (Str.ofString "frames") q3, .ref fs⟩, ⟨PyData.keyHash w.params (Str.ofString "growth"), .str (Str.ofString "growth") q4, .ref gr⟩, ⟨PyData.keyHash w.params (Str.ofString "names"), .str (Str.ofString "names") q5, .ref nm⟩] 6) ∈ st) (m3 : (e, instObj 820 eD) ∈ st) (m4 : (eD, dictOf [⟨PyData.keyHash w.params (Str.ofString "rows"), .str (Str.ofString "rows") q6, .ref rows⟩] 1) ∈ st) (m5 : (fs, listOf #[.ref fr] 0) ∈ st) (m6 : (fr, instObj 841 fD) ∈ st) (m7 : (fD, dictOf [⟨PyData.keyHash w.params (Str.ofString "cursor"), .str (Str.ofString "cursor") q7, .ref c⟩, ⟨PyData.keyHash w.params (Str.ofString "name"), .str (Str.ofString "name") q8, .none⟩, ⟨PyData.keyHash w.params (Str.ofString "place"), .str (Str.ofString "place") q9, .int 0 qx⟩, ⟨PyData.keyHash w.params (Str.ofString "many"), .str (Str.ofString "many") qa, .int 0 qy⟩] 4) ∈ st) (m8 : (c, instObj 418 d) ∈ st) (m9 : (a0, tupO [.str (Str.ofString "instruction") ua0, .str (Str.ofString "p") ua1, .str (Str.ofString "q") ua2]) ∈ st) (m10 : (l, listOf #[.ref a0] nL) ∈ st) (hc : ∀ p ∈ rest, p ∈ st) (y1 : @LT.lt Nat _ nm wl) (y2 : @LT.lt Nat _ nm w3) (y3 : @LT.lt Nat _ nm w2) (y4 : @LT.lt Nat _ nm w1) (y5 : @LT.lt Nat _ nm wa) (y6 : @LT.lt Nat _ nm w0) : Rd4 w h₀ L sc rest s { s with heap := h, toks := tk9 } := by
  have hN : News h₀ L h ((d, curD w.params t1 T2 tt t2 ((7 : Nat) : Int) tk) :: (rows, listOf (#[.ref a0]) (1)) :: (nm, listOf (#[]) (0)) :: (wl, listOf #[.ref w0, .ref w1, .ref w2, .ref w3] 0) :: (w3, tupO [.str (Str.ofString "end") x0, .str (Str.ofString "a") x1]) :: (w2, tupO [.str (Str.ofString "text") x2, .str (Str.ofString "x") x3]) :: (w1, tupO [.str (Str.ofString "start") x4, .str (Str.ofString "a") x5, .ref wa]) :: (wa, tupO []) :: (w0, tupO [.str (Str.ofString "instruction") x6, .str (Str.ofString "p") x7, .str (Str.ofString "q") x8]) :: st) := by
    exact news_sub N sub4
  exact Rd4.mk en gr r rD e eD rows c d fr fD fs nm q0 q1 q2 q3 q4 q5 q6 q7 q8 q9 qa qx qy t1 tt t2 tk _ a0 l nL ua0 ua1 ua2 wl w0 w1 w2 w3 wa x0 x1 x2 x3 x4 x5 x6 x7 x8 l0 l1 (off_hh l0 l1 y1 <| off_hh l0 l1 y2 <| off_hh l0 l1 y3 <| off_hh l0 l1 y4 <| off_hh l0 l1 y5 <| off_hh l0 l1 y6 hs) (.tail _ <| .tail _ <| .tail _ <| .tail _ <| .tail _ <| .tail _ <| m1) (.tail _ <| .tail _ <| .tail _ <| .tail _ <| .tail _ <| .tail _ <| m2) (.tail _ <| .tail _ <| .tail _ <| .tail _ <| .tail _ <| .tail _ <| m3) (.tail _ <| .tail _ <| .tail _ <| .tail _ <| .tail _ <| .tail _ <| m4) (.tail _ <| .tail _ <| .tail _ <| .tail _ <| .tail _ <| .tail _ <| m5) (.tail _ <| .tail _ <| .tail _ <| .tail _ <| .tail _ <| .tail _ <| m6) (.tail _ <| .tail _ <| .tail _ <| .tail _ <| .tail _ <| .tail _ <| m7) (.tail _ <| .tail _ <| .tail _ <| .tail _ <| .tail _ <| .tail _ <| m8) (.tail _ <| .tail _ <| .tail _ <| .tail _ <| .tail _ <| .tail _ <| m9) (.tail _ <| .tail _ <| .tail _ <| .tail _ <| .tail _ <| .tail _ <| m10) (.head _) (.tail _ <| .head _) (.tail _ <| .tail _ <| .head _) (.tail _ <| .tail _ <| .tail _ <| .head _) (.tail _ <| .tail _ <| .tail _ <| .tail _ <| .head _) (.tail _ <| .tail _ <| .tail _ <| .tail _ <| .tail _ <| .head _) (fun p hp => .tail _ <| .tail _ <| .tail _ <| .tail _ <| .tail _ <| .tail _ <| (hc p hp)) (LawAtV.of F ⟨v1, v2, v3, v4, trivial⟩ hN (fun _ hp => hp))
end
end Mine
section -- law
local macro_rules | `(tactic| walk_at "zzz") => `(tactic| fail "no")
local macro_rules | `(tactic| walk_at "pyIter ref") => `(tactic| (k_here; (with_reducible show wpAny _ _ (pyIter (Value.ref _)) (fun it s₂ => LoopAtV _ _ _ _ _ _ _ _ _ it s₂) _ _); refine Stop.at ?_))
local macro_rules | `(tactic| walk_at "exec For Name Call cons nil") => `(tactic| (k_here; refine Stop.at ?_))
local macro_rules | `(tactic| walk_at "eval ListComp") => `(tactic| (k_here; k_dflt (refine LCg.ListComp_U (F₀ := by k_asm) (by with_unfolding_all rfl) (by decide) (by rfl) (by decide) (by rfl) ?_)))
local macro_rules | `(tactic| walk_at "CompSrc") => `(tactic| (k_here; refine Stop.at ?_))
local macro_rules | `(tactic| walk_at "CompEnd") => `(tactic| (k_here; refine Stop.at ?_))
local macro_rules | `(tactic| walk_at "call builtin:str.join") => `(tactic| (k_here; (with_reducible show wpAny _ _ (call (Value.builtin "str.join") [Value.str (Str.ofString "") _, _]) _ _ _); refine Stop.at ?_))
local macro_rules | `(tactic| walk_at "call ref") => `(tactic| (k_here; (with_reducible show wpAny _ _ (call (Value.ref 961) _) _ _ _); refine Stop.at ?_))
local macro_rules | `(tactic| k_mem) => `(tactic| first | k_memK | ((repeat (refine' List.Mem.tail _ ?_)); assumption))
local macro_rules | `(tactic| is_list) => `(tactic| exact News.isList (by k_asm) (by k_mem))
set_option maxHeartbeats 8000000 in
theorem PySem.Challenge.cw_sy0050_01_holds : PySem.Challenge.rw_sy0050_01.Holds := by
  refine Mine.hd ?_
  k_go0
  all_goals (try k_fold)
  rename_i w s0 s1 mg mb hG hY fa o pm doc ho hg KX hX hV GL hT hB TE TW wa wb hM wc wd hcd ns hs hlay0 hL hr hl2 we wf wsc wvs wg hIL ra w1 r0 hI hr2 hc1 hc2 K0 hD h1 tk1 F0 o1 o2 o3 d1 d2 d3 N0 X0
  have e1 : o1.data = Data.cell none := d1
  have e2 : o2.data = Data.cell none := d2
  have e3 : o3.data = Data.cell none := d3
  clear X0 d1 d2 d3 hD hcd hY hG GL hB TE TW hM hX hV hs hlay0 hr hl2 ra w1 r0 hr2 hc2
  revert F0
  generalize hm : bindL _ _ _ = m0
  intro F0
  have hm1 : m0 (Str.ofString "script") = some (.ref wsc) := by rw [← hm]; rfl
  clear hm
  have F : Fr s1.heap s1.heap.objs.size h1 (fun y => if y = Str.ofString "script" then some (.ref wsc) else m0 y) := by
    have em : (fun y => if y = Str.ofString "script" then some (.ref wsc) else m0 y) = m0 := by
      funext y
      by_cases h : y = Str.ofString "script"
      · rw [if_pos h, h, hm1]
      · rw [if_neg h]
    rw [em]; exact F0
  clear F0 hm1
  dsimp only
  refine wpAny_execs_cons ?_
  with_reducible refine seq_then (LawAt s1.heap s1.heap.objs.size wsc [(s1.heap.objs.size + 1 + 1 + 1, o1), (s1.heap.objs.size + 1 + 1, o2), (s1.heap.objs.size + 1, o3)] s1) ?_ ?_
  · (k_steps; (try repeat' ((with_reducible refine Stop.by ?_); (first | ((with_reducible show wpAny _ _ (call (Value.ref 1019) _) _ _ _); k_dflt (refine' CallsToS.top ?spec ?k2 ?k1 ?k3 ?k4 ?k5 ?XB ?TB ?kK ?kd ?ku ?hm ?_; (case k2 => k_asm); (case k1 => k_asm); (case XB => k_asm); (case TB => k_asm); (case k3 => k_asm); (case k4 => k_asm); (case k5 => k_asm); (case kK => first | exact rfl | assumption); (case spec => exact right_SP _ _ _ _ _ _ _ _ _ _ _ _ (by assumption) (by assumption) (by assumption) (And.left (by assumption : Pr _ ∧ _ ≤ 9)) (by assumption) (Nat.le_trans (And.right (by assumption : Pr _ ∧ _ ≤ 9)) (by decide))); (case kd => first | decide | ktr_room); (case ku => first | decide | ktr_units); (case hm => exact fun R R' h p => h _ _ p); intro h9 tk9 F9 N9; (try dsimp only))) | ((with_reducible show wpAny _ _ (call (Value.ref 986) _) _ _ _); k_dflt (refine' CallsTo.use (one_draw _ _ _ _ _ _ _ ?h1 ?h2 _ _ _ _ _ _ _ ?hU ?hb ?hne) ?k1 ?k2 ?k3 ?k4 ?k5 ?kK ?kd ?ku ?_; (case k2 => k_asm); (case k1 => k_asm); (case k3 => k_asm); (case k4 => k_asm); (case k5 => k_asm); (case kK => first | exact rfl | assumption); (case hU => k_updF); (case hb => k_mem); (case hne => k_ne); (case h1 => first | exact Nat.le_of_ble_eq_true rfl | (rw [zS9]; decide) | (rw [zP9]; decide)); (case h2 => first | exact Nat.le_of_ble_eq_true rfl | (rw [zS9]; decide) | (rw [zP9]; decide)); (case kd => first | decide | ktr_room); (case ku => first | decide | ktr_units); intro i9 v9 hv9 x9 tx9 y9 ty9 h9 tk9 F9 N9; (try dsimp only); first | ((have hp9 : IsPub v9 := by with_reducible exact isPub hv9); clear hv9) | ((have hp9 : IsSg v9 := by first | with_reducible exact hS9 _ _ hv9 | with_reducible exact sg11 hv9); (obtain ⟨y9, t9, e9, o9⟩ := hp9); subst e9; clear hv9) | ((have hp9 : IsPc v9 := by first | with_reducible exact hP9 _ _ hv9 | with_reducible exact pc12 hv9); (obtain ⟨y9, t9, e9, o9⟩ := hp9); subst e9; clear hv9) | ((have hp9 : IsPc v9 := by with_reducible exact tl4 hv9); (obtain ⟨y9, t9, e9, o9⟩ := hp9); subst e9; clear hv9))) | ((with_reducible show wpAny _ _ (call (Value.ref 972) _) _ _ _); k_dflt (refine' CallsTo.use (pool_spec _ _ _ _ _ _ _ _ ?hI ?hn ?hb _) ?k1 ?k2 ?k3 ?k4 ?k5 ?kK ?kd ?ku ?_; (case k2 => k_asm); (case k1 => k_asm); (case k3 => k_asm); (case k4 => k_asm); (case k5 => k_asm); (case kK => first | exact rfl | assumption); (case hI => assumption); (case hn => assumption); (case hb => assumption); (case kd => first | decide | ktr_room); (case ku => first | decide | ktr_units); refine ⟨by assumption, ?_⟩; intro a9 x9 tx9 y9 ty9 l1 h9 tk9 F9 N9; (try dsimp only); (try k_lt l1))) | ((with_reducible show wpAny _ _ (call (Value.ref 1012) _) _ _ _); k_dflt (refine' CallsToS.top (told_1 _ _ _ _ _ _) ?k2 ?k1 ?k3 ?k4 ?k5 ?XB ?TB ?kK ?kd ?ku ?hm ?_; (case k2 => k_asm); (case k1 => k_asm); (case XB => k_asm); (case TB => k_asm); (case k3 => k_asm); (case k4 => k_asm); (case k5 => k_asm); (case kK => first | exact rfl | assumption); (case kd => first | decide | ktr_room); (case ku => first | decide | ktr_units); (case hm => exact fun R R' h p t0 t1 t4 t5 ev b h1 h2 h3 => h _ _ (p t0 t1 t4 t5 ev b h1 h2 h3)); (with_reducible (repeat' (first | (refine And.intro ?_ ?_) | intro))); (try dsimp only); (all_goals (try (rename (∀ p : Addr × Obj, _ ∈ _ → @LT.lt Nat _ _ _) => l1; k_lt l1))); (all_goals (try (rename (∀ p : Addr × Obj, _ ∈ _ → @LT.lt Nat _ _ _) => l1; k_lt l1)))))); k_steps)))
    try any_goals exact trivial
    refine LawAt.of (by assumption) (by rfl) (by assumption) (fun p hp => by repeat (first | exact hp | refine List.Mem.tail _ ?_))
  clear F N0 h1 tk1
  with_reducible refine law_next ?_
  intro h1 tk1 m1 F N
  try dsimp only
  refine wpAny_execs_cons ?_
  with_reducible refine seq_then (Rd2 w s1.heap s1.heap.objs.size wsc [(s1.heap.objs.size + 1 + 1 + 1, o1), (s1.heap.objs.size + 1 + 1, o2), (s1.heap.objs.size + 1, o3)] s1) ?_ ?_
  · (k_steps; (try repeat' ((with_reducible refine Stop.by ?_); ((first | (with_reducible show wpAny _ _ (call (Value.ref 895) _) _ _ _) | (with_reducible show wpAny _ _ (call (Value.ref 874) _) _ _ _) | (with_reducible show wpAny _ _ (call (Value.ref 961) _) _ _ _)); k_dflt (refine' CallsTo.use ?zs ?z1 ?z2 ?z3 ?z4 ?z5 ?zK ?zd ?zu ?_; (case z1 | z2 | z3 | z4 | z5 => k_asm); (case zK => first | exact rfl | assumption); (case zs => first | exact (rest_7 _ _ _ _ _ _ _ _ _ _ _ _ _ _ _ _ _ _ _ _ _ _ _ _ _ _ _ _ _ _ _ _ _ _ _ (by assumption) (by assumption) (by assumption) (by assumption) (by assumption) (by assumption) (by assumption) (by assumption) (by assumption) (by assumption) (by assumption) _ _ _ _ _ (by first | assumption | k_mem)) | exact (prolog_0 _ _ _ _ _ _ _ _ _ _ _ _ _ _ _ _ _ _ _ _ _ _ _ _ _ _ _ _ _ _ _ _ _ _ _ (by assumption) (by assumption) (by assumption) (by assumption) (by assumption) (by assumption) (by assumption) (by assumption) (by assumption) (by assumption) (by assumption)) | exact (new_rd _ _ _ _ _ _ _ _ _ _ _ _ _ _ _ _ (by first | assumption | k_mem) (by first | assumption | k_mem))); (case zd => first | decide | ktr_room); (case zu => first | decide | ktr_units); (try dsimp only [RetV, len_0, len_1, len_2, len_3, len_4, len_5, len_6, len_7, len_8, len_9, len_10, len_11, len_12, len_13, len_14, len_15, len_16, len_17, len_18]); (with_reducible (repeat' (first | (refine And.intro ?_ ?_) | intro))); (all_goals (try dsimp only)); (all_goals (try (rename (∀ p : Addr × Obj, _ ∈ _ → @LT.lt Nat _ _ _) => zl1; k_lt zl1))); (all_goals (try contradiction)))); k_steps)))
    any_goals exact trivial
    rename News _ _ _ _ => nn
    rename Fr _ _ _ _ => ff
    refine Rd2.of ff (by rfl) (by rfl) nn ⟨by omega, by omega, by omega, by omega, by omega, by omega, by omega, by omega, by omega, by omega⟩ ?_
    exact off_one (off_one (off_one (fun p hp => nomatch hp) (by dsimp only; omega) (by dsimp only; omega) (by dsimp only; omega)) (by dsimp only; omega) (by dsimp only; omega) (by dsimp only; omega)) (by dsimp only; omega) (by dsimp only; omega) (by dsimp only; omega)
  clear F N h1 tk1 m1
  rintro s' ⟨en, gr, r, rD, e, eD, rows, c, d, fr, fD, fs, nm, q0, q1, q2, q3, q4, q5, q6, q7, q8, q9, qa, qx, qy, t1, tt, t2, tk, st, l0, l1, hs, m1, m2, m3, m4, m5, m6, m7, m8, hc, hx⟩
  revert s'
  with_reducible refine lawv_next ?_
  intro h1 tk1 mm F N
  (try dsimp only [vmap] at F)
  try dsimp only
  refine wpAny_execs_cons ?_
  with_reducible refine seq_then (Rd3 w s1.heap s1.heap.objs.size wsc [(s1.heap.objs.size + 1 + 1 + 1, o1), (s1.heap.objs.size + 1 + 1, o2), (s1.heap.objs.size + 1, o3)] s1) ?_ ?_
  · (k_steps; (try repeat' ((with_reducible refine Stop.by ?_); ((first | (with_reducible show wpAny _ _ (call (Value.ref 895) _) _ _ _) | (with_reducible show wpAny _ _ (call (Value.ref 874) _) _ _ _)); k_dflt (refine' CallsTo.use ?zs ?z1 ?z2 ?z3 ?z4 ?z5 ?zK ?zd ?zu ?_; (case z1 | z2 | z3 | z4 | z5 => k_asm); (case zK => first | exact rfl | assumption); (case zs => first | exact (rest_7 _ _ _ _ _ _ _ _ _ _ _ _ _ _ _ _ _ _ _ _ _ _ _ _ _ _ _ _ _ _ _ _ _ _ _ (by assumption) (by assumption) (by assumption) (by assumption) (by assumption) (by assumption) (by assumption) (by assumption) (by assumption) (by assumption) (by assumption) _ _ _ _ _ (by first | assumption | k_mem)) | exact (prolog_0 _ _ _ _ _ _ _ _ _ _ _ _ _ _ _ _ _ _ _ _ _ _ _ _ _ _ _ _ _ _ _ _ _ _ _ (by assumption) (by assumption) (by assumption) (by assumption) (by assumption) (by assumption) (by assumption) (by assumption) (by assumption) (by assumption) (by assumption))); (case zd => first | decide | ktr_room); (case zu => first | decide | ktr_units); (try dsimp only [RetV, len_0, len_1, len_2, len_3, len_4, len_5, len_6, len_7, len_8, len_9, len_10, len_11, len_12, len_13, len_14, len_15, len_16, len_17, len_18]); (with_reducible (repeat' (first | (refine And.intro ?_ ?_) | intro))); (all_goals (try dsimp only)); (all_goals (try (rename (∀ p : Addr × Obj, _ ∈ _ → @LT.lt Nat _ _ _) => zl1; k_lt zl1))); (all_goals (try contradiction)))); k_steps)))
    rename News _ _ _ _ => nn
    rename Fr _ _ _ _ => ff
    exact Rd3.of ff (by rfl) (by rfl) (by rfl) nn l0 l1 hs m1 m2 m3 m4 m5 m6 m7 m8 hc (by omega) (by omega)
  clear F N h1 tk1 mm l0 l1 hs hc m1 m2 m3 m4 m5 m6 m7 m8
  clear en gr r rD e eD rows c d fr fD fs nm q0 q1 q2 q3 q4 q5 q6 q7 q8 q9 qa qx qy t1 tt t2 tk st
  rintro s' ⟨en, gr, r, rD, e, eD, rows, c, d, fr, fD, fs, nm, q0, q1, q2, q3, q4, q5, q6, q7, q8, q9, qa, qx, qy, t1, tt, t2, tk, st, a0, l, nL, ua0, ua1, ua2, l0, l1, hs, m1, m2, m3, m4, m5, m6, m7, m8, m9, m10, hc, hx⟩
  revert s'
  with_reducible refine lawv_next ?_
  intro h1 tk1 mm F N
  (try dsimp only [vmap] at F)
  try dsimp only
  refine wpAny_execs_cons ?_
  with_reducible refine seq_then (Rd4 w s1.heap s1.heap.objs.size wsc [(s1.heap.objs.size + 1 + 1 + 1, o1), (s1.heap.objs.size + 1 + 1, o2), (s1.heap.objs.size + 1, o3)] s1) ?_ ?_
  · k_steps
    any_goals exact trivial
    rename News _ _ _ _ => nn
    rename Fr _ _ _ _ => ff
    exact Rd4.of ff (by rfl) (by rfl) (by rfl) (by rfl) nn l0 l1 hs m1 m2 m3 m4 m5 m6 m7 m8 m9 m10 hc (by omega) (by omega) (by omega) (by omega) (by omega) (by omega)
  clear F N h1 tk1 mm l0 l1 hs hc m9 m10 m1 m2 m3 m4 m5 m6 m7 m8
  clear en gr r rD e eD rows c d fr fD fs nm q0 q1 q2 q3 q4 q5 q6 q7 q8 q9 qa qx qy t1 tt t2 tk st a0 l nL ua0 ua1 ua2
  rintro s' ⟨en, gr, r, rD, e, eD, rows, c, d, fr, fD, fs, nm, q0, q1, q2, q3, q4, q5, q6, q7, q8, q9, qa, qx, qy, t1, tt, t2, tk, st, a0, l, nL, ua0, ua1, ua2, wl, w0, w1, w2, w3, wa, x0, x1, x2, x3, x4, x5, x6, x7, x8, l0, l1, hs, m1, m2, m3, m4, m5, m6, m7, m8, m9, m10, v1, v2, v3, v4, v5, v6, hc, hx⟩
  revert s'
  with_reducible refine lawv_next ?_
  intro h1 tk1 mm F N
  (try dsimp only [vmap] at F)
  try dsimp only
  refine wpAny_execs_cons ?_
  with_reducible refine seq_then (LawAt s1.heap s1.heap.objs.size wsc [(s1.heap.objs.size + 1 + 1 + 1, o1), (s1.heap.objs.size + 1 + 1, o2), (s1.heap.objs.size + 1, o3)] s1) ?_ ?_
  · (k_steps; (try repeat' ((with_reducible refine Stop.by ?_); ((with_reducible show wpAny _ _ (call (Value.ref 895) _) _ _ _); k_dflt (refine' CallsTo.use ?zs ?z1 ?z2 ?z3 ?z4 ?z5 ?zK ?zd ?zu ?_; (case z1 | z2 | z3 | z4 | z5 => k_asm); (case zK => first | exact rfl | assumption); (case zs => exact (rest_7 _ _ _ _ _ _ _ _ _ _ _ _ _ _ _ _ _ _ _ _ _ _ _ _ _ _ _ _ _ _ _ _ _ _ _ (by assumption) (by assumption) (by assumption) (by assumption) (by assumption) (by assumption) (by assumption) (by assumption) (by assumption) (by assumption) (by assumption) _ _ _ _ _ (by first | assumption | k_mem))); (case zd => first | decide | ktr_room); (case zu => first | decide | ktr_units); (try dsimp only [RetV, len_0, len_1, len_2, len_3, len_4, len_5, len_6, len_7, len_8, len_9, len_10, len_11, len_12, len_13, len_14, len_15, len_16, len_17, len_18]); (with_reducible (repeat' (first | (refine And.intro ?_ ?_) | intro))); (all_goals (try dsimp only)); (all_goals (try (rename (∀ p : Addr × Obj, _ ∈ _ → @LT.lt Nat _ _ _) => zl1; k_lt zl1))); (all_goals (try contradiction)))); k_steps)))
    try any_goals exact trivial
    refine LawAt.of (by assumption) (by rfl) (by assumption) (fun p hp => by repeat (first | exact hc p hp | refine List.Mem.tail _ ?_))
  clear F N h1 tk1 mm l0 l1 hs hc m9 m10 v1 v2 v3 v4 v5 v6 m1 m2 m3 m4 m5 m6 m7 m8
  clear en gr r rD e eD rows c d fr fD fs nm q0 q1 q2 q3 q4 q5 q6 q7 q8 q9 qa qx qy t1 tt t2 tk st a0 l nL ua0 ua1 ua2 wl w0 w1 w2 w3 wa x0 x1 x2 x3 x4 x5 x6 x7 x8
  with_reducible refine law_next ?_
  intro h1 tk1 m1 F N
  try dsimp only
  have hvs : wvs.toArray.size ≤ 1000 := by
    have := IntsAre.length hI
    simp only [List.size_toArray]
    omega
  (k_steps; (try repeat' ((with_reducible refine Stop.by ?_); (first | ((with_reducible show wpAny _ _ (call (Value.ref 1019) _) _ _ _); k_dflt (refine' CallsToS.top ?spec ?k2 ?k1 ?k3 ?k4 ?k5 ?XB ?TB ?kK ?kd ?ku ?hm ?_; (case k2 => k_asm); (case k1 => k_asm); (case XB => k_asm); (case TB => k_asm); (case k3 => k_asm); (case k4 => k_asm); (case k5 => k_asm); (case kK => first | exact rfl | assumption); (case spec => exact right_SP _ _ _ _ _ _ _ _ _ _ _ _ (by assumption) (by assumption) (by assumption) (And.left (by assumption : Pr _ ∧ _ ≤ 9)) (by assumption) (Nat.le_trans (And.right (by assumption : Pr _ ∧ _ ≤ 9)) (by decide))); (case kd => first | decide | ktr_room); (case ku => first | decide | ktr_units); (case hm => exact fun R R' h p => h _ _ p); intro h9 tk9 F9 N9; (try dsimp only))) | ((with_reducible show wpAny _ _ (call (Value.ref 986) _) _ _ _); k_dflt (refine' CallsTo.use (one_draw _ _ _ _ _ _ _ ?h1 ?h2 _ _ _ _ _ _ _ ?hU ?hb ?hne) ?k1 ?k2 ?k3 ?k4 ?k5 ?kK ?kd ?ku ?_; (case k2 => k_asm); (case k1 => k_asm); (case k3 => k_asm); (case k4 => k_asm); (case k5 => k_asm); (case kK => first | exact rfl | assumption); (case hU => k_updF); (case hb => k_mem); (case hne => k_ne); (case h1 => first | exact Nat.le_of_ble_eq_true rfl | (rw [zS9]; decide) | (rw [zP9]; decide)); (case h2 => first | exact Nat.le_of_ble_eq_true rfl | (rw [zS9]; decide) | (rw [zP9]; decide)); (case kd => first | decide | ktr_room); (case ku => first | decide | ktr_units); intro i9 v9 hv9 x9 tx9 y9 ty9 h9 tk9 F9 N9; (try dsimp only); first | ((have hp9 : IsPub v9 := by with_reducible exact isPub hv9); clear hv9) | ((have hp9 : IsSg v9 := by first | with_reducible exact hS9 _ _ hv9 | with_reducible exact sg11 hv9); (obtain ⟨y9, t9, e9, o9⟩ := hp9); subst e9; clear hv9) | ((have hp9 : IsPc v9 := by first | with_reducible exact hP9 _ _ hv9 | with_reducible exact pc12 hv9); (obtain ⟨y9, t9, e9, o9⟩ := hp9); subst e9; clear hv9) | ((have hp9 : IsPc v9 := by with_reducible exact tl4 hv9); (obtain ⟨y9, t9, e9, o9⟩ := hp9); subst e9; clear hv9))) | ((with_reducible show wpAny _ _ (call (Value.ref 972) _) _ _ _); k_dflt (refine' CallsTo.use (pool_spec _ _ _ _ _ _ _ _ ?hI ?hn ?hb _) ?k1 ?k2 ?k3 ?k4 ?k5 ?kK ?kd ?ku ?_; (case k2 => k_asm); (case k1 => k_asm); (case k3 => k_asm); (case k4 => k_asm); (case k5 => k_asm); (case kK => first | exact rfl | assumption); (case hI => assumption); (case hn => assumption); (case hb => assumption); (case kd => first | decide | ktr_room); (case ku => first | decide | ktr_units); refine ⟨by assumption, ?_⟩; intro a9 x9 tx9 y9 ty9 l1 h9 tk9 F9 N9; (try dsimp only); (try k_lt l1))) | ((with_reducible show wpAny _ _ (call (Value.ref 1012) _) _ _ _); k_dflt (refine' CallsToS.top (told_1 _ _ _ _ _ _) ?k2 ?k1 ?k3 ?k4 ?k5 ?XB ?TB ?kK ?kd ?ku ?hm ?_; (case k2 => k_asm); (case k1 => k_asm); (case XB => k_asm); (case TB => k_asm); (case k3 => k_asm); (case k4 => k_asm); (case k5 => k_asm); (case kK => first | exact rfl | assumption); (case kd => first | decide | ktr_room); (case ku => first | decide | ktr_units); (case hm => exact fun R R' h p t0 t1 t4 t5 ev b h1 h2 h3 => h _ _ (p t0 t1 t4 t5 ev b h1 h2 h3)); (with_reducible (repeat' (first | (refine And.intro ?_ ?_) | intro))); (try dsimp only); (all_goals (try (rename (∀ p : Addr × Obj, _ ∈ _ → @LT.lt Nat _ _ _) => l1; k_lt l1))); (all_goals (try (rename (∀ p : Addr × Obj, _ ∈ _ → @LT.lt Nat _ _ _) => l1; k_lt l1))))) | ((fail_if_success (with_reducible show wpAny _ _ (call (Value.ref 986) _) _ _ _)); (fail_if_success (with_reducible show wpAny _ _ (call (Value.ref 1019) _) _ _ _)); k_dflt (refine wpAny_call ?_; (refine' code_def ?k1 ?k2 ?k3 ?k4 ?k5 ?kA ?kF ?kK ?k6 ?k7 ?k8 ?k9 ?kB ?_ ?c2 ?c3 ?c4 ?c5; (case kA | kF => exact rfl); (case kK => first | exact rfl | assumption); (case k1 | k2 | k3 | k4 | k5 => k_asm); (case k6 | k7 => k_is); (case k8 => first | exact room_0 (by assumption) | ktr_room); (case k9 => first | exact BindsTo.of_eq rfl | exact binds_K (by k_in) rfl (by k_is) rfl rfl rfl); (case c5 => decide); (case kB => exact locs rfl); (case c2 | c3 | c4 => exact rfl); k_whole; intro g' L' h' FG' F' N' B' X' T'; (try dsimp only); (try k_fold)))) | ((with_reducible show wpAny _ _ (call (Value.ref 150) _) _ _ _); k_dflt (refine' CallsTo.use (sf_call _ _ _ _ _ _ _ _ _) ?z1 ?z2 ?z3 ?z4 ?z5 ?zK ?zd ?zu ?_; (case z1 | z2 | z3 | z4 | z5 => k_asm); (case zK => first | exact rfl | assumption); (case zd => first | exact room_d (by assumption) (by exact rfl) | exact room_e (by assumption) (by exact rfl) | ktr_room); (case zu => first | exact room_u (by assumption) (by exact rfl) | exact room_v (by assumption) (by exact rfl) | exact room_x (by assumption) (by exact rfl) | exact room_w (by assumption) (by exact rfl) | exact room_y (by assumption) (by exact rfl) | ktr_units); intro e' t' oe' h' tk' hX' hg' hc' hd' hM'; (try dsimp only))) | ((with_reducible show wpAny _ _ (exec (Stmt.Raise _ _ _) _) _ _ _); k_dflt (refine' raise150 ?h ?_; (case h => exact rfl); (try k_fold))) | ((with_reducible show Exists _); (rename MadeF _ _ _ _ _ _ _ _ _ => hM9); refine ⟨_, _, _, rfl, by assumption, by assumption, by assumption, by assumption, ?_⟩) | ((with_reducible show wpAny _ _ (leaving _ (Value.ref _)) _ _ _); (k_dflt first | (refine' leave_newF (hk := by rfl) ?k1 ?k2 ?_; (case k2 => assumption); (case k1 => assumption); k_whole; intro h' R' U'; (try dsimp only at R' U' ⊢)) | (refine' leave_onF ?k1 ?k2 ?k3 ?k4 ?_; (case k3 => assumption); (case k1 => assumption); (case k2 => assumption); (case k4 => assumption); k_whole; intro h' R' U'; (try dsimp only at R' U' ⊢)))) | ((with_reducible show wpAny _ _ (subscriptTail _ _ (Value.str _ _) (Value.int _ _)) _ _ _); (k_dflt (refine' item_at ?hs ?h2 ?_ (by with_unfolding_all rfl) (by intro _; with_unfolding_all rfl); (case hs => omega); (case h2 => omega); (try dsimp only))))); k_steps)))
  refine Stop.by ?_
  rename Fr _ _ _ _ => lF
  rename News _ _ _ _ => lN0
  refine hideSP lN0 (fun _ _ => pc12) rfl (fun _ _ => sg11) rfl ?_
  intro SA9 PA9 zP9 zS9 hP9 hS9 lN1
  clear lN0
  refine For_invVF lF ?k1 ?k2 ?_
  case k1 => exact rfl
  case k2 => exact rfl
  (k_steps; (try repeat' ((with_reducible refine Stop.by ?_); (first | ((with_reducible show wpAny _ _ (call (Value.ref 1019) _) _ _ _); k_dflt (refine' CallsToS.top ?spec ?k2 ?k1 ?k3 ?k4 ?k5 ?XB ?TB ?kK ?kd ?ku ?hm ?_; (case k2 => k_asm); (case k1 => k_asm); (case XB => k_asm); (case TB => k_asm); (case k3 => k_asm); (case k4 => k_asm); (case k5 => k_asm); (case kK => first | exact rfl | assumption); (case spec => exact right_SP _ _ _ _ _ _ _ _ _ _ _ _ (by assumption) (by assumption) (by assumption) (And.left (by assumption : Pr _ ∧ _ ≤ 9)) (by assumption) (Nat.le_trans (And.right (by assumption : Pr _ ∧ _ ≤ 9)) (by decide))); (case kd => first | decide | ktr_room); (case ku => first | decide | ktr_units); (case hm => exact fun R R' h p => h _ _ p); intro h9 tk9 F9 N9; (try dsimp only))) | ((with_reducible show wpAny _ _ (call (Value.ref 986) _) _ _ _); k_dflt (refine' CallsTo.use (one_draw _ _ _ _ _ _ _ ?h1 ?h2 _ _ _ _ _ _ _ ?hU ?hb ?hne) ?k1 ?k2 ?k3 ?k4 ?k5 ?kK ?kd ?ku ?_; (case k2 => k_asm); (case k1 => k_asm); (case k3 => k_asm); (case k4 => k_asm); (case k5 => k_asm); (case kK => first | exact rfl | assumption); (case hU => k_updF); (case hb => k_mem); (case hne => k_ne); (case h1 => first | exact Nat.le_of_ble_eq_true rfl | (rw [zS9]; decide) | (rw [zP9]; decide)); (case h2 => first | exact Nat.le_of_ble_eq_true rfl | (rw [zS9]; decide) | (rw [zP9]; decide)); (case kd => first | decide | ktr_room); (case ku => first | decide | ktr_units); intro i9 v9 hv9 x9 tx9 y9 ty9 h9 tk9 F9 N9; (try dsimp only); first | ((have hp9 : IsPub v9 := by with_reducible exact isPub hv9); clear hv9) | ((have hp9 : IsSg v9 := by first | with_reducible exact hS9 _ _ hv9 | with_reducible exact sg11 hv9); (obtain ⟨y9, t9, e9, o9⟩ := hp9); subst e9; clear hv9) | ((have hp9 : IsPc v9 := by first | with_reducible exact hP9 _ _ hv9 | with_reducible exact pc12 hv9); (obtain ⟨y9, t9, e9, o9⟩ := hp9); subst e9; clear hv9) | ((have hp9 : IsPc v9 := by with_reducible exact tl4 hv9); (obtain ⟨y9, t9, e9, o9⟩ := hp9); subst e9; clear hv9))) | ((with_reducible show wpAny _ _ (call (Value.ref 972) _) _ _ _); k_dflt (refine' CallsTo.use (pool_spec _ _ _ _ _ _ _ _ ?hI ?hn ?hb _) ?k1 ?k2 ?k3 ?k4 ?k5 ?kK ?kd ?ku ?_; (case k2 => k_asm); (case k1 => k_asm); (case k3 => k_asm); (case k4 => k_asm); (case k5 => k_asm); (case kK => first | exact rfl | assumption); (case hI => assumption); (case hn => assumption); (case hb => assumption); (case kd => first | decide | ktr_room); (case ku => first | decide | ktr_units); refine ⟨by assumption, ?_⟩; intro a9 x9 tx9 y9 ty9 l1 h9 tk9 F9 N9; (try dsimp only); (try k_lt l1))) | ((with_reducible show wpAny _ _ (call (Value.ref 1012) _) _ _ _); k_dflt (refine' CallsToS.top (told_1 _ _ _ _ _ _) ?k2 ?k1 ?k3 ?k4 ?k5 ?XB ?TB ?kK ?kd ?ku ?hm ?_; (case k2 => k_asm); (case k1 => k_asm); (case XB => k_asm); (case TB => k_asm); (case k3 => k_asm); (case k4 => k_asm); (case k5 => k_asm); (case kK => first | exact rfl | assumption); (case kd => first | decide | ktr_room); (case ku => first | decide | ktr_units); (case hm => exact fun R R' h p t0 t1 t4 t5 ev b h1 h2 h3 => h _ _ (p t0 t1 t4 t5 ev b h1 h2 h3)); (with_reducible (repeat' (first | (refine And.intro ?_ ?_) | intro))); (try dsimp only); (all_goals (try (rename (∀ p : Addr × Obj, _ ∈ _ → @LT.lt Nat _ _ _) => l1; k_lt l1))); (all_goals (try (rename (∀ p : Addr × Obj, _ ∈ _ → @LT.lt Nat _ _ _) => l1; k_lt l1))))) | ((fail_if_success (with_reducible show wpAny _ _ (call (Value.ref 986) _) _ _ _)); (fail_if_success (with_reducible show wpAny _ _ (call (Value.ref 1019) _) _ _ _)); k_dflt (refine wpAny_call ?_; (refine' code_def ?k1 ?k2 ?k3 ?k4 ?k5 ?kA ?kF ?kK ?k6 ?k7 ?k8 ?k9 ?kB ?_ ?c2 ?c3 ?c4 ?c5; (case kA | kF => exact rfl); (case kK => first | exact rfl | assumption); (case k1 | k2 | k3 | k4 | k5 => k_asm); (case k6 | k7 => k_is); (case k8 => first | exact room_0 (by assumption) | ktr_room); (case k9 => first | exact BindsTo.of_eq rfl | exact binds_K (by k_in) rfl (by k_is) rfl rfl rfl); (case c5 => decide); (case kB => exact locs rfl); (case c2 | c3 | c4 => exact rfl); k_whole; intro g' L' h' FG' F' N' B' X' T'; (try dsimp only); (try k_fold)))) | ((with_reducible show wpAny _ _ (call (Value.ref 150) _) _ _ _); k_dflt (refine' CallsTo.use (sf_call _ _ _ _ _ _ _ _ _) ?z1 ?z2 ?z3 ?z4 ?z5 ?zK ?zd ?zu ?_; (case z1 | z2 | z3 | z4 | z5 => k_asm); (case zK => first | exact rfl | assumption); (case zd => first | exact room_d (by assumption) (by exact rfl) | exact room_e (by assumption) (by exact rfl) | ktr_room); (case zu => first | exact room_u (by assumption) (by exact rfl) | exact room_v (by assumption) (by exact rfl) | exact room_x (by assumption) (by exact rfl) | exact room_w (by assumption) (by exact rfl) | exact room_y (by assumption) (by exact rfl) | ktr_units); intro e' t' oe' h' tk' hX' hg' hc' hd' hM'; (try dsimp only))) | ((with_reducible show wpAny _ _ (exec (Stmt.Raise _ _ _) _) _ _ _); k_dflt (refine' raise150 ?h ?_; (case h => exact rfl); (try k_fold))) | ((with_reducible show Exists _); (rename MadeF _ _ _ _ _ _ _ _ _ => hM9); refine ⟨_, _, _, rfl, by assumption, by assumption, by assumption, by assumption, ?_⟩) | ((with_reducible show wpAny _ _ (leaving _ (Value.ref _)) _ _ _); (k_dflt first | (refine' leave_newF (hk := by rfl) ?k1 ?k2 ?_; (case k2 => assumption); (case k1 => assumption); k_whole; intro h' R' U'; (try dsimp only at R' U' ⊢)) | (refine' leave_onF ?k1 ?k2 ?k3 ?k4 ?_; (case k3 => assumption); (case k1 => assumption); (case k2 => assumption); (case k4 => assumption); k_whole; intro h' R' U'; (try dsimp only at R' U' ⊢)))) | ((with_reducible show wpAny _ _ (subscriptTail _ _ (Value.str _ _) (Value.int _ _)) _ _ _); (k_dflt (refine' item_at ?hs ?h2 ?_ (by with_unfolding_all rfl) (by intro _; with_unfolding_all rfl); (case hs => omega); (case h2 => omega); (try dsimp only))))); k_steps)))
  refine Stop.by ?_
  rename IsRange _ _ _ _ _ _ _ _ => lR
  rename Fr _ _ _ _ => lF
  rename News _ _ _ _ => lN
  refine iter_led (σ := Int × CTok × Int × CTok) (fun c => (_, _) :: (_, _) :: (_, srcO c.1 c.2.1 c.2.2.1 c.2.2.2) :: _) ⟨_, _, _, _⟩ 4 rfl lR rfl rfl (by omega) lF lN ?turn ?done
  case done =>
    clear lR lF lN
    intros
    k_steps
  case turn =>
    intro i9 t9 h9 tk9 own m9
    with_reducible refine c4_el ?_
    intro x9 tx9 y9 ty9 hi9 ho9 cF cN
    clear lR lF lN
    (try dsimp only at cN)
    (try simp only [List.cons_append, List.nil_append] at cN)
    (k_steps; (try repeat' ((with_reducible refine Stop.by ?_); (first | ((with_reducible show wpAny _ _ (call (Value.ref 1019) _) _ _ _); k_dflt (refine' CallsToS.top ?spec ?k2 ?k1 ?k3 ?k4 ?k5 ?XB ?TB ?kK ?kd ?ku ?hm ?_; (case k2 => k_asm); (case k1 => k_asm); (case XB => k_asm); (case TB => k_asm); (case k3 => k_asm); (case k4 => k_asm); (case k5 => k_asm); (case kK => first | exact rfl | assumption); (case spec => exact right_SP _ _ _ _ _ _ _ _ _ _ _ _ (by assumption) (by assumption) (by assumption) (And.left (by assumption : Pr _ ∧ _ ≤ 9)) (by assumption) (Nat.le_trans (And.right (by assumption : Pr _ ∧ _ ≤ 9)) (by decide))); (case kd => first | decide | ktr_room); (case ku => first | decide | ktr_units); (case hm => exact fun R R' h p => h _ _ p); intro h9 tk9 F9 N9; (try dsimp only))) | ((with_reducible show wpAny _ _ (call (Value.ref 986) _) _ _ _); k_dflt (refine' CallsTo.use (one_draw _ _ _ _ _ _ _ ?h1 ?h2 _ _ _ _ _ _ _ ?hU ?hb ?hne) ?k1 ?k2 ?k3 ?k4 ?k5 ?kK ?kd ?ku ?_; (case k2 => k_asm); (case k1 => k_asm); (case k3 => k_asm); (case k4 => k_asm); (case k5 => k_asm); (case kK => first | exact rfl | assumption); (case hU => k_updF); (case hb => k_mem); (case hne => k_ne); (case h1 => first | exact Nat.le_of_ble_eq_true rfl | (rw [zS9]; decide) | (rw [zP9]; decide)); (case h2 => first | exact Nat.le_of_ble_eq_true rfl | (rw [zS9]; decide) | (rw [zP9]; decide)); (case kd => first | decide | ktr_room); (case ku => first | decide | ktr_units); intro i9 v9 hv9 x9 tx9 y9 ty9 h9 tk9 F9 N9; (try dsimp only); first | ((have hp9 : IsPub v9 := by with_reducible exact isPub hv9); clear hv9) | ((have hp9 : IsSg v9 := by first | with_reducible exact hS9 _ _ hv9 | with_reducible exact sg11 hv9); (obtain ⟨y9, t9, e9, o9⟩ := hp9); subst e9; clear hv9) | ((have hp9 : IsPc v9 := by first | with_reducible exact hP9 _ _ hv9 | with_reducible exact pc12 hv9); (obtain ⟨y9, t9, e9, o9⟩ := hp9); subst e9; clear hv9) | ((have hp9 : IsPc v9 := by with_reducible exact tl4 hv9); (obtain ⟨y9, t9, e9, o9⟩ := hp9); subst e9; clear hv9))) | ((with_reducible show wpAny _ _ (call (Value.ref 979) _) _ _ _); k_dflt (refine' CallsTo.use (DM.use ?zs ?zU) ?z1 ?z2 ?z3 ?z4 ?z5 ?zK ?zd ?zu ?_; (case z1 | z2 | z3 | z4 | z5 => k_asm); (case zK => first | exact rfl | assumption); (case zU => k_updF); (case zs => exact (take_draw _ _ _ _ _ _ (by walk_at "zz side") (by walk_at "zz side"))); (case zd => first | exact room_d (by assumption) (by exact rfl) | exact room_e (by assumption) (by exact rfl) | ktr_room); (case zu => first | exact room_u (by assumption) (by exact rfl) | exact room_v (by assumption) (by exact rfl) | exact room_x (by assumption) (by exact rfl) | exact room_w (by assumption) (by exact rfl) | exact room_y (by assumption) (by exact rfl) | ktr_units); (try dsimp only [RetV, len_0, len_1, len_2, len_3, len_4, len_5, len_6, len_7, len_8, len_9, len_10, len_11, len_12, len_13, len_14, len_15, len_16, len_17, len_18]); (with_reducible (repeat' (first | (refine And.intro ?_ ?_) | intro))); (all_goals (try dsimp only)); (all_goals (try (rename (∀ p : Addr × Obj, _ ∈ _ → @LT.lt Nat _ _ _) => zl1; k_lt zl1))); (all_goals (try contradiction)))) | ((with_reducible show wpAny _ _ (call (Value.ref 972) _) _ _ _); k_dflt (refine' CallsTo.use (pool_spec _ _ _ _ _ _ _ _ ?hI ?hn ?hb _) ?k1 ?k2 ?k3 ?k4 ?k5 ?kK ?kd ?ku ?_; (case k2 => k_asm); (case k1 => k_asm); (case k3 => k_asm); (case k4 => k_asm); (case k5 => k_asm); (case kK => first | exact rfl | assumption); (case hI => assumption); (case hn => assumption); (case hb => assumption); (case kd => first | decide | ktr_room); (case ku => first | decide | ktr_units); refine ⟨by assumption, ?_⟩; intro a9 x9 tx9 y9 ty9 l1 h9 tk9 F9 N9; (try dsimp only); (try k_lt l1))) | ((with_reducible show wpAny _ _ (call (Value.ref 1012) _) _ _ _); k_dflt (refine' CallsToS.top (told_1 _ _ _ _ _ _) ?k2 ?k1 ?k3 ?k4 ?k5 ?XB ?TB ?kK ?kd ?ku ?hm ?_; (case k2 => k_asm); (case k1 => k_asm); (case XB => k_asm); (case TB => k_asm); (case k3 => k_asm); (case k4 => k_asm); (case k5 => k_asm); (case kK => first | exact rfl | assumption); (case kd => first | decide | ktr_room); (case ku => first | decide | ktr_units); (case hm => exact fun R R' h p t0 t1 t4 t5 ev b h1 h2 h3 => h _ _ (p t0 t1 t4 t5 ev b h1 h2 h3)); (with_reducible (repeat' (first | (refine And.intro ?_ ?_) | intro))); (try dsimp only); (all_goals (try (rename (∀ p : Addr × Obj, _ ∈ _ → @LT.lt Nat _ _ _) => l1; k_lt l1))); (all_goals (try (rename (∀ p : Addr × Obj, _ ∈ _ → @LT.lt Nat _ _ _) => l1; k_lt l1))))) | ((fail_if_success (with_reducible show wpAny _ _ (call (Value.ref 986) _) _ _ _)); (fail_if_success (with_reducible show wpAny _ _ (call (Value.ref 1019) _) _ _ _)); k_dflt (refine wpAny_call ?_; (refine' code_def ?k1 ?k2 ?k3 ?k4 ?k5 ?kA ?kF ?kK ?k6 ?k7 ?k8 ?k9 ?kB ?_ ?c2 ?c3 ?c4 ?c5; (case kA | kF => exact rfl); (case kK => first | exact rfl | assumption); (case k1 | k2 | k3 | k4 | k5 => k_asm); (case k6 | k7 => k_is); (case k8 => first | exact room_0 (by assumption) | ktr_room); (case k9 => first | exact BindsTo.of_eq rfl | exact binds_K (by k_in) rfl (by k_is) rfl rfl rfl); (case c5 => decide); (case kB => exact locs rfl); (case c2 | c3 | c4 => exact rfl); k_whole; intro g' L' h' FG' F' N' B' X' T'; (try dsimp only); (try k_fold)))) | ((with_reducible show wpAny _ _ (call (Value.ref 150) _) _ _ _); k_dflt (refine' CallsTo.use (sf_call _ _ _ _ _ _ _ _ _) ?z1 ?z2 ?z3 ?z4 ?z5 ?zK ?zd ?zu ?_; (case z1 | z2 | z3 | z4 | z5 => k_asm); (case zK => first | exact rfl | assumption); (case zd => first | exact room_d (by assumption) (by exact rfl) | exact room_e (by assumption) (by exact rfl) | ktr_room); (case zu => first | exact room_u (by assumption) (by exact rfl) | exact room_v (by assumption) (by exact rfl) | exact room_x (by assumption) (by exact rfl) | exact room_w (by assumption) (by exact rfl) | exact room_y (by assumption) (by exact rfl) | ktr_units); intro e' t' oe' h' tk' hX' hg' hc' hd' hM'; (try dsimp only))) | ((with_reducible show wpAny _ _ (exec (Stmt.Raise _ _ _) _) _ _ _); k_dflt (refine' raise150 ?h ?_; (case h => exact rfl); (try k_fold))) | ((with_reducible show Exists _); (rename MadeF _ _ _ _ _ _ _ _ _ => hM9); refine ⟨_, _, _, rfl, by assumption, by assumption, by assumption, by assumption, ?_⟩) | ((with_reducible show wpAny _ _ (leaving _ (Value.ref _)) _ _ _); (k_dflt first | (refine' leave_newF (hk := by rfl) ?k1 ?k2 ?_; (case k2 => assumption); (case k1 => assumption); k_whole; intro h' R' U'; (try dsimp only at R' U' ⊢)) | (refine' leave_onF ?k1 ?k2 ?k3 ?k4 ?_; (case k3 => assumption); (case k1 => assumption); (case k2 => assumption); (case k4 => assumption); k_whole; intro h' R' U'; (try dsimp only at R' U' ⊢)))) | ((with_reducible show wpAny _ _ (subscriptTail _ _ (Value.str _ _) (Value.int _ _)) _ _ _); (k_dflt (refine' item_at ?hs ?h2 ?_ (by with_unfolding_all rfl) (by intro _; with_unfolding_all rfl); (case hs => omega); (case h2 => omega); (try dsimp only))))); k_steps)))
    refine Stop.by ?_
    rename IsRange _ _ _ _ _ _ _ _ => lR
    rename Fr _ _ _ _ => lF
    rename News _ _ _ _ => lN
    rename _ < 5 => hk5
    refine LCg.CompSrc.range (n := _) (by rfl) lF lN lR (range_small0 _ (by omega)) (range_size0 _) (by size_fits) ?_
    intro gh
    refine rest_inv _ (JoI (fun c => (_, _) :: (_, _) :: (_, _) :: (_, srcO c.1 c.2.1 c.2.2.1 c.2.2.2) :: _) (fun y => OneSg y)) ?stepa5 ?donea5 _ 0 [] _ (Nat.zero_add _) ⟨⟨_, _, _, _⟩, [], rfl, .nil, rfl, fun y hy => (nomatch hy)⟩
    case stepa5 =>
      clear lR lF lN
      intro i ys
      with_reducible refine joi_st ?_
      rintro x8 tx8 y8 ty8 cs hi hcs hln hgs v I' oI C' oC D' m2 h' tk' E' ⟨tv, hv⟩ hC hx cF cN off ne
      subst hv
      (try dsimp only at cN)
      (try simp only [LCg.Off3] at off)
      (k_steps; (try repeat' ((with_reducible refine Stop.by ?_); (first | ((with_reducible show wpAny _ _ (call (Value.ref 1019) _) _ _ _); k_dflt (refine' CallsToS.top ?spec ?k2 ?k1 ?k3 ?k4 ?k5 ?XB ?TB ?kK ?kd ?ku ?hm ?_; (case k2 => k_asm); (case k1 => k_asm); (case XB => k_asm); (case TB => k_asm); (case k3 => k_asm); (case k4 => k_asm); (case k5 => k_asm); (case kK => first | exact rfl | assumption); (case spec => exact right_SP _ _ _ _ _ _ _ _ _ _ _ _ (by assumption) (by assumption) (by assumption) (And.left (by assumption : Pr _ ∧ _ ≤ 9)) (by assumption) (Nat.le_trans (And.right (by assumption : Pr _ ∧ _ ≤ 9)) (by decide))); (case kd => first | decide | ktr_room); (case ku => first | decide | ktr_units); (case hm => exact fun R R' h p => h _ _ p); intro h9 tk9 F9 N9; (try dsimp only))) | ((with_reducible show wpAny _ _ (call (Value.ref 986) _) _ _ _); k_dflt (refine' CallsTo.use (one_draw _ _ _ _ _ _ _ ?h1 ?h2 _ _ _ _ _ _ _ ?hU ?hb ?hne) ?k1 ?k2 ?k3 ?k4 ?k5 ?kK ?kd ?ku ?_; (case k2 => k_asm); (case k1 => k_asm); (case k3 => k_asm); (case k4 => k_asm); (case k5 => k_asm); (case kK => first | exact rfl | assumption); (case hU => k_updF); (case hb => k_mem); (case hne => k_ne); (case h1 => first | exact Nat.le_of_ble_eq_true rfl | (rw [zS9]; decide) | (rw [zP9]; decide)); (case h2 => first | exact Nat.le_of_ble_eq_true rfl | (rw [zS9]; decide) | (rw [zP9]; decide)); (case kd => first | decide | ktr_room); (case ku => first | decide | ktr_units); intro i9 v9 hv9 x9 tx9 y9 ty9 h9 tk9 F9 N9; (try dsimp only); first | ((have hp9 : IsPub v9 := by with_reducible exact isPub hv9); clear hv9) | ((have hp9 : IsSg v9 := by first | with_reducible exact hS9 _ _ hv9 | with_reducible exact sg11 hv9); (obtain ⟨y9, t9, e9, o9⟩ := hp9); subst e9; clear hv9) | ((have hp9 : IsPc v9 := by first | with_reducible exact hP9 _ _ hv9 | with_reducible exact pc12 hv9); (obtain ⟨y9, t9, e9, o9⟩ := hp9); subst e9; clear hv9) | ((have hp9 : IsPc v9 := by with_reducible exact tl4 hv9); (obtain ⟨y9, t9, e9, o9⟩ := hp9); subst e9; clear hv9))) | ((with_reducible show wpAny _ _ (call (Value.ref 972) _) _ _ _); k_dflt (refine' CallsTo.use (pool_spec _ _ _ _ _ _ _ _ ?hI ?hn ?hb _) ?k1 ?k2 ?k3 ?k4 ?k5 ?kK ?kd ?ku ?_; (case k2 => k_asm); (case k1 => k_asm); (case k3 => k_asm); (case k4 => k_asm); (case k5 => k_asm); (case kK => first | exact rfl | assumption); (case hI => assumption); (case hn => assumption); (case hb => assumption); (case kd => first | decide | ktr_room); (case ku => first | decide | ktr_units); refine ⟨by assumption, ?_⟩; intro a9 x9 tx9 y9 ty9 l1 h9 tk9 F9 N9; (try dsimp only); (try k_lt l1))) | ((with_reducible show wpAny _ _ (call (Value.ref 1012) _) _ _ _); k_dflt (refine' CallsToS.top (told_1 _ _ _ _ _ _) ?k2 ?k1 ?k3 ?k4 ?k5 ?XB ?TB ?kK ?kd ?ku ?hm ?_; (case k2 => k_asm); (case k1 => k_asm); (case XB => k_asm); (case TB => k_asm); (case k3 => k_asm); (case k4 => k_asm); (case k5 => k_asm); (case kK => first | exact rfl | assumption); (case kd => first | decide | ktr_room); (case ku => first | decide | ktr_units); (case hm => exact fun R R' h p t0 t1 t4 t5 ev b h1 h2 h3 => h _ _ (p t0 t1 t4 t5 ev b h1 h2 h3)); (with_reducible (repeat' (first | (refine And.intro ?_ ?_) | intro))); (try dsimp only); (all_goals (try (rename (∀ p : Addr × Obj, _ ∈ _ → @LT.lt Nat _ _ _) => l1; k_lt l1))); (all_goals (try (rename (∀ p : Addr × Obj, _ ∈ _ → @LT.lt Nat _ _ _) => l1; k_lt l1))))) | ((fail_if_success (with_reducible show wpAny _ _ (call (Value.ref 986) _) _ _ _)); (fail_if_success (with_reducible show wpAny _ _ (call (Value.ref 1019) _) _ _ _)); k_dflt (refine wpAny_call ?_; (refine' code_def ?k1 ?k2 ?k3 ?k4 ?k5 ?kA ?kF ?kK ?k6 ?k7 ?k8 ?k9 ?kB ?_ ?c2 ?c3 ?c4 ?c5; (case kA | kF => exact rfl); (case kK => first | exact rfl | assumption); (case k1 | k2 | k3 | k4 | k5 => k_asm); (case k6 | k7 => k_is); (case k8 => first | exact room_0 (by assumption) | ktr_room); (case k9 => first | exact BindsTo.of_eq rfl | exact binds_K (by k_in) rfl (by k_is) rfl rfl rfl); (case c5 => decide); (case kB => exact locs rfl); (case c2 | c3 | c4 => exact rfl); k_whole; intro g' L' h' FG' F' N' B' X' T'; (try dsimp only); (try k_fold)))) | ((with_reducible show wpAny _ _ (call (Value.ref 150) _) _ _ _); k_dflt (refine' CallsTo.use (sf_call _ _ _ _ _ _ _ _ _) ?z1 ?z2 ?z3 ?z4 ?z5 ?zK ?zd ?zu ?_; (case z1 | z2 | z3 | z4 | z5 => k_asm); (case zK => first | exact rfl | assumption); (case zd => first | exact room_d (by assumption) (by exact rfl) | exact room_e (by assumption) (by exact rfl) | ktr_room); (case zu => first | exact room_u (by assumption) (by exact rfl) | exact room_v (by assumption) (by exact rfl) | exact room_x (by assumption) (by exact rfl) | exact room_w (by assumption) (by exact rfl) | exact room_y (by assumption) (by exact rfl) | ktr_units); intro e' t' oe' h' tk' hX' hg' hc' hd' hM'; (try dsimp only))) | ((with_reducible show wpAny _ _ (exec (Stmt.Raise _ _ _) _) _ _ _); k_dflt (refine' raise150 ?h ?_; (case h => exact rfl); (try k_fold))) | ((with_reducible show Exists _); (rename MadeF _ _ _ _ _ _ _ _ _ => hM9); refine ⟨_, _, _, rfl, by assumption, by assumption, by assumption, by assumption, ?_⟩) | ((with_reducible show wpAny _ _ (leaving _ (Value.ref _)) _ _ _); (k_dflt first | (refine' leave_newF (hk := by rfl) ?k1 ?k2 ?_; (case k2 => assumption); (case k1 => assumption); k_whole; intro h' R' U'; (try dsimp only at R' U' ⊢)) | (refine' leave_onF ?k1 ?k2 ?k3 ?k4 ?_; (case k3 => assumption); (case k1 => assumption); (case k2 => assumption); (case k4 => assumption); k_whole; intro h' R' U'; (try dsimp only at R' U' ⊢)))) | ((with_reducible show wpAny _ _ (subscriptTail _ _ (Value.str _ _) (Value.int _ _)) _ _ _); (k_dflt (refine' item_at ?hs ?h2 ?_ (by with_unfolding_all rfl) (by intro _; with_unfolding_all rfl); (case hs => omega); (case h2 => omega); (try dsimp only))))); k_steps)))
      refine Stop.by ?_
      refine LCg.CompEnd.intro (by assumption) (by assumption) _ (fun p hp => hp) ?offa5 trivial ⟨⟨_, _, _, _⟩, cs ++ [_], rfl, kct_snoc hcs, by rw [List.length_append, hln]; rfl, fun y hy => (List.mem_append.mp hy).elim (hgs y) fun q => by rw [List.mem_singleton.mp q]; assumption⟩
      exact off
    case donea5 =>
      clear lR lF lN
      intro ys
      with_reducible refine joi_dn ?_
      intro x8 tx8 y8 ty8 cs hcs hln hgs
      (k_steps; (try repeat' ((with_reducible refine Stop.by ?_); (first | ((with_reducible show wpAny _ _ (call (Value.ref 1019) _) _ _ _); k_dflt (refine' CallsToS.top ?spec ?k2 ?k1 ?k3 ?k4 ?k5 ?XB ?TB ?kK ?kd ?ku ?hm ?_; (case k2 => k_asm); (case k1 => k_asm); (case XB => k_asm); (case TB => k_asm); (case k3 => k_asm); (case k4 => k_asm); (case k5 => k_asm); (case kK => first | exact rfl | assumption); (case spec => exact right_SP _ _ _ _ _ _ _ _ _ _ _ _ (by assumption) (by assumption) (by assumption) (And.left (by assumption : Pr _ ∧ _ ≤ 9)) (by assumption) (Nat.le_trans (And.right (by assumption : Pr _ ∧ _ ≤ 9)) (by decide))); (case kd => first | decide | ktr_room); (case ku => first | decide | ktr_units); (case hm => exact fun R R' h p => h _ _ p); intro h9 tk9 F9 N9; (try dsimp only))) | ((with_reducible show wpAny _ _ (call (Value.ref 986) _) _ _ _); k_dflt (refine' CallsTo.use (one_draw _ _ _ _ _ _ _ ?h1 ?h2 _ _ _ _ _ _ _ ?hU ?hb ?hne) ?k1 ?k2 ?k3 ?k4 ?k5 ?kK ?kd ?ku ?_; (case k2 => k_asm); (case k1 => k_asm); (case k3 => k_asm); (case k4 => k_asm); (case k5 => k_asm); (case kK => first | exact rfl | assumption); (case hU => k_updF); (case hb => k_mem); (case hne => k_ne); (case h1 => first | exact Nat.le_of_ble_eq_true rfl | (rw [zS9]; decide) | (rw [zP9]; decide)); (case h2 => first | exact Nat.le_of_ble_eq_true rfl | (rw [zS9]; decide) | (rw [zP9]; decide)); (case kd => first | decide | ktr_room); (case ku => first | decide | ktr_units); intro i9 v9 hv9 x9 tx9 y9 ty9 h9 tk9 F9 N9; (try dsimp only); first | ((have hp9 : IsPub v9 := by with_reducible exact isPub hv9); clear hv9) | ((have hp9 : IsSg v9 := by first | with_reducible exact hS9 _ _ hv9 | with_reducible exact sg11 hv9); (obtain ⟨y9, t9, e9, o9⟩ := hp9); subst e9; clear hv9) | ((have hp9 : IsPc v9 := by first | with_reducible exact hP9 _ _ hv9 | with_reducible exact pc12 hv9); (obtain ⟨y9, t9, e9, o9⟩ := hp9); subst e9; clear hv9) | ((have hp9 : IsPc v9 := by with_reducible exact tl4 hv9); (obtain ⟨y9, t9, e9, o9⟩ := hp9); subst e9; clear hv9))) | ((with_reducible show wpAny _ _ (call (Value.ref 972) _) _ _ _); k_dflt (refine' CallsTo.use (pool_spec _ _ _ _ _ _ _ _ ?hI ?hn ?hb _) ?k1 ?k2 ?k3 ?k4 ?k5 ?kK ?kd ?ku ?_; (case k2 => k_asm); (case k1 => k_asm); (case k3 => k_asm); (case k4 => k_asm); (case k5 => k_asm); (case kK => first | exact rfl | assumption); (case hI => assumption); (case hn => assumption); (case hb => assumption); (case kd => first | decide | ktr_room); (case ku => first | decide | ktr_units); refine ⟨by assumption, ?_⟩; intro a9 x9 tx9 y9 ty9 l1 h9 tk9 F9 N9; (try dsimp only); (try k_lt l1))) | ((with_reducible show wpAny _ _ (call (Value.ref 1012) _) _ _ _); k_dflt (refine' CallsToS.top (told_1 _ _ _ _ _ _) ?k2 ?k1 ?k3 ?k4 ?k5 ?XB ?TB ?kK ?kd ?ku ?hm ?_; (case k2 => k_asm); (case k1 => k_asm); (case XB => k_asm); (case TB => k_asm); (case k3 => k_asm); (case k4 => k_asm); (case k5 => k_asm); (case kK => first | exact rfl | assumption); (case kd => first | decide | ktr_room); (case ku => first | decide | ktr_units); (case hm => exact fun R R' h p t0 t1 t4 t5 ev b h1 h2 h3 => h _ _ (p t0 t1 t4 t5 ev b h1 h2 h3)); (with_reducible (repeat' (first | (refine And.intro ?_ ?_) | intro))); (try dsimp only); (all_goals (try (rename (∀ p : Addr × Obj, _ ∈ _ → @LT.lt Nat _ _ _) => l1; k_lt l1))); (all_goals (try (rename (∀ p : Addr × Obj, _ ∈ _ → @LT.lt Nat _ _ _) => l1; k_lt l1))))) | ((fail_if_success (with_reducible show wpAny _ _ (call (Value.ref 986) _) _ _ _)); (fail_if_success (with_reducible show wpAny _ _ (call (Value.ref 1019) _) _ _ _)); k_dflt (refine wpAny_call ?_; (refine' code_def ?k1 ?k2 ?k3 ?k4 ?k5 ?kA ?kF ?kK ?k6 ?k7 ?k8 ?k9 ?kB ?_ ?c2 ?c3 ?c4 ?c5; (case kA | kF => exact rfl); (case kK => first | exact rfl | assumption); (case k1 | k2 | k3 | k4 | k5 => k_asm); (case k6 | k7 => k_is); (case k8 => first | exact room_0 (by assumption) | ktr_room); (case k9 => first | exact BindsTo.of_eq rfl | exact binds_K (by k_in) rfl (by k_is) rfl rfl rfl); (case c5 => decide); (case kB => exact locs rfl); (case c2 | c3 | c4 => exact rfl); k_whole; intro g' L' h' FG' F' N' B' X' T'; (try dsimp only); (try k_fold)))) | ((with_reducible show wpAny _ _ (call (Value.ref 150) _) _ _ _); k_dflt (refine' CallsTo.use (sf_call _ _ _ _ _ _ _ _ _) ?z1 ?z2 ?z3 ?z4 ?z5 ?zK ?zd ?zu ?_; (case z1 | z2 | z3 | z4 | z5 => k_asm); (case zK => first | exact rfl | assumption); (case zd => first | exact room_d (by assumption) (by exact rfl) | exact room_e (by assumption) (by exact rfl) | ktr_room); (case zu => first | exact room_u (by assumption) (by exact rfl) | exact room_v (by assumption) (by exact rfl) | exact room_x (by assumption) (by exact rfl) | exact room_w (by assumption) (by exact rfl) | exact room_y (by assumption) (by exact rfl) | ktr_units); intro e' t' oe' h' tk' hX' hg' hc' hd' hM'; (try dsimp only))) | ((with_reducible show wpAny _ _ (exec (Stmt.Raise _ _ _) _) _ _ _); k_dflt (refine' raise150 ?h ?_; (case h => exact rfl); (try k_fold))) | ((with_reducible show Exists _); (rename MadeF _ _ _ _ _ _ _ _ _ => hM9); refine ⟨_, _, _, rfl, by assumption, by assumption, by assumption, by assumption, ?_⟩) | ((with_reducible show wpAny _ _ (leaving _ (Value.ref _)) _ _ _); (k_dflt first | (refine' leave_newF (hk := by rfl) ?k1 ?k2 ?_; (case k2 => assumption); (case k1 => assumption); k_whole; intro h' R' U'; (try dsimp only at R' U' ⊢)) | (refine' leave_onF ?k1 ?k2 ?k3 ?k4 ?_; (case k3 => assumption); (case k1 => assumption); (case k2 => assumption); (case k4 => assumption); k_whole; intro h' R' U'; (try dsimp only at R' U' ⊢)))) | ((with_reducible show wpAny _ _ (subscriptTail _ _ (Value.str _ _) (Value.int _ _)) _ _ _); (k_dflt (refine' item_at ?hs ?h2 ?_ (by with_unfolding_all rfl) (by intro _; with_unfolding_all rfl); (case hs => omega); (case h2 => omega); (try dsimp only))))); k_steps)))
      refine Stop.by ?_
      rename News _ _ _ _ => lN
      refine join_listW (ys := cs) ⟨_, (lN _ (List.Mem.head _)).1, rfl, _, rfl⟩ (by simpa using hcs) (by decide) (by have := sum_le (B := 1) cs (fun y hy => (by obtain ⟨c, rfl, _⟩ := hgs y hy; exact Nat.le_refl 1)); omega) ?_
      intro t' k'
      rw [show Txt.join (Str.ofString "") cs = Str.join (Str.ofString "") cs from StrLaws.glued_eq_join _ _]
      obtain ⟨q1, q2⟩ := join_sg cs hgs
      have hS : SgOk (Str.join (Str.ofString "") cs) := ⟨by omega, q2⟩
      have hSl := hS.1
      clear q1 q2
      generalize Str.join (Str.ofString "") cs = S at *
      (k_steps; (try repeat' ((with_reducible refine Stop.by ?_); (first | ((with_reducible show wpAny _ _ (call (Value.ref 1019) _) _ _ _); k_dflt (refine' CallsToS.top ?spec ?k2 ?k1 ?k3 ?k4 ?k5 ?XB ?TB ?kK ?kd ?ku ?hm ?_; (case k2 => k_asm); (case k1 => k_asm); (case XB => k_asm); (case TB => k_asm); (case k3 => k_asm); (case k4 => k_asm); (case k5 => k_asm); (case kK => first | exact rfl | assumption); (case spec => exact right_SP _ _ _ _ _ _ _ _ _ _ _ _ (by assumption) (by assumption) (by assumption) (And.left (by assumption : Pr _ ∧ _ ≤ 9)) (by assumption) (Nat.le_trans (And.right (by assumption : Pr _ ∧ _ ≤ 9)) (by decide))); (case kd => first | decide | ktr_room); (case ku => first | decide | ktr_units); (case hm => exact fun R R' h p => h _ _ p); intro h9 tk9 F9 N9; (try dsimp only))) | ((with_reducible show wpAny _ _ (call (Value.ref 986) _) _ _ _); k_dflt (refine' CallsTo.use (one_draw _ _ _ _ _ _ _ ?h1 ?h2 _ _ _ _ _ _ _ ?hU ?hb ?hne) ?k1 ?k2 ?k3 ?k4 ?k5 ?kK ?kd ?ku ?_; (case k2 => k_asm); (case k1 => k_asm); (case k3 => k_asm); (case k4 => k_asm); (case k5 => k_asm); (case kK => first | exact rfl | assumption); (case hU => k_updF); (case hb => k_mem); (case hne => k_ne); (case h1 => first | exact Nat.le_of_ble_eq_true rfl | (rw [zS9]; decide) | (rw [zP9]; decide)); (case h2 => first | exact Nat.le_of_ble_eq_true rfl | (rw [zS9]; decide) | (rw [zP9]; decide)); (case kd => first | decide | ktr_room); (case ku => first | decide | ktr_units); intro i9 v9 hv9 x9 tx9 y9 ty9 h9 tk9 F9 N9; (try dsimp only); first | ((have hp9 : IsPub v9 := by with_reducible exact isPub hv9); clear hv9) | ((have hp9 : IsSg v9 := by first | with_reducible exact hS9 _ _ hv9 | with_reducible exact sg11 hv9); (obtain ⟨y9, t9, e9, o9⟩ := hp9); subst e9; clear hv9) | ((have hp9 : IsPc v9 := by first | with_reducible exact hP9 _ _ hv9 | with_reducible exact pc12 hv9); (obtain ⟨y9, t9, e9, o9⟩ := hp9); subst e9; clear hv9) | ((have hp9 : IsPc v9 := by with_reducible exact tl4 hv9); (obtain ⟨y9, t9, e9, o9⟩ := hp9); subst e9; clear hv9))) | ((with_reducible show wpAny _ _ (call (Value.ref 979) _) _ _ _); k_dflt (refine' CallsTo.use (DM.use ?zs ?zU) ?z1 ?z2 ?z3 ?z4 ?z5 ?zK ?zd ?zu ?_; (case z1 | z2 | z3 | z4 | z5 => k_asm); (case zK => first | exact rfl | assumption); (case zU => k_updF); (case zs => exact (take_draw _ _ _ _ _ _ (by walk_at "zz side") (by walk_at "zz side"))); (case zd => first | exact room_d (by assumption) (by exact rfl) | exact room_e (by assumption) (by exact rfl) | ktr_room); (case zu => first | exact room_u (by assumption) (by exact rfl) | exact room_v (by assumption) (by exact rfl) | exact room_x (by assumption) (by exact rfl) | exact room_w (by assumption) (by exact rfl) | exact room_y (by assumption) (by exact rfl) | ktr_units); (try dsimp only [RetV, len_0, len_1, len_2, len_3, len_4, len_5, len_6, len_7, len_8, len_9, len_10, len_11, len_12, len_13, len_14, len_15, len_16, len_17, len_18]); (with_reducible (repeat' (first | (refine And.intro ?_ ?_) | intro))); (all_goals (try dsimp only)); (all_goals (try (rename (∀ p : Addr × Obj, _ ∈ _ → @LT.lt Nat _ _ _) => zl1; k_lt zl1))); (all_goals (try contradiction)))) | ((with_reducible show wpAny _ _ (call (Value.ref 972) _) _ _ _); k_dflt (refine' CallsTo.use (pool_spec _ _ _ _ _ _ _ _ ?hI ?hn ?hb _) ?k1 ?k2 ?k3 ?k4 ?k5 ?kK ?kd ?ku ?_; (case k2 => k_asm); (case k1 => k_asm); (case k3 => k_asm); (case k4 => k_asm); (case k5 => k_asm); (case kK => first | exact rfl | assumption); (case hI => assumption); (case hn => assumption); (case hb => assumption); (case kd => first | decide | ktr_room); (case ku => first | decide | ktr_units); refine ⟨by assumption, ?_⟩; intro a9 x9 tx9 y9 ty9 l1 h9 tk9 F9 N9; (try dsimp only); (try k_lt l1))) | ((with_reducible show wpAny _ _ (call (Value.ref 1012) _) _ _ _); k_dflt (refine' CallsToS.top (told_1 _ _ _ _ _ _) ?k2 ?k1 ?k3 ?k4 ?k5 ?XB ?TB ?kK ?kd ?ku ?hm ?_; (case k2 => k_asm); (case k1 => k_asm); (case XB => k_asm); (case TB => k_asm); (case k3 => k_asm); (case k4 => k_asm); (case k5 => k_asm); (case kK => first | exact rfl | assumption); (case kd => first | decide | ktr_room); (case ku => first | decide | ktr_units); (case hm => exact fun R R' h p t0 t1 t4 t5 ev b h1 h2 h3 => h _ _ (p t0 t1 t4 t5 ev b h1 h2 h3)); (with_reducible (repeat' (first | (refine And.intro ?_ ?_) | intro))); (try dsimp only); (all_goals (try (rename (∀ p : Addr × Obj, _ ∈ _ → @LT.lt Nat _ _ _) => l1; k_lt l1))); (all_goals (try (rename (∀ p : Addr × Obj, _ ∈ _ → @LT.lt Nat _ _ _) => l1; k_lt l1))))) | ((fail_if_success (with_reducible show wpAny _ _ (call (Value.ref 986) _) _ _ _)); (fail_if_success (with_reducible show wpAny _ _ (call (Value.ref 1019) _) _ _ _)); k_dflt (refine wpAny_call ?_; (refine' code_def ?k1 ?k2 ?k3 ?k4 ?k5 ?kA ?kF ?kK ?k6 ?k7 ?k8 ?k9 ?kB ?_ ?c2 ?c3 ?c4 ?c5; (case kA | kF => exact rfl); (case kK => first | exact rfl | assumption); (case k1 | k2 | k3 | k4 | k5 => k_asm); (case k6 | k7 => k_is); (case k8 => first | exact room_0 (by assumption) | ktr_room); (case k9 => first | exact BindsTo.of_eq rfl | exact binds_K (by k_in) rfl (by k_is) rfl rfl rfl); (case c5 => decide); (case kB => exact locs rfl); (case c2 | c3 | c4 => exact rfl); k_whole; intro g' L' h' FG' F' N' B' X' T'; (try dsimp only); (try k_fold)))) | ((with_reducible show wpAny _ _ (call (Value.ref 150) _) _ _ _); k_dflt (refine' CallsTo.use (sf_call _ _ _ _ _ _ _ _ _) ?z1 ?z2 ?z3 ?z4 ?z5 ?zK ?zd ?zu ?_; (case z1 | z2 | z3 | z4 | z5 => k_asm); (case zK => first | exact rfl | assumption); (case zd => first | exact room_d (by assumption) (by exact rfl) | exact room_e (by assumption) (by exact rfl) | ktr_room); (case zu => first | exact room_u (by assumption) (by exact rfl) | exact room_v (by assumption) (by exact rfl) | exact room_x (by assumption) (by exact rfl) | exact room_w (by assumption) (by exact rfl) | exact room_y (by assumption) (by exact rfl) | ktr_units); intro e' t' oe' h' tk' hX' hg' hc' hd' hM'; (try dsimp only))) | ((with_reducible show wpAny _ _ (exec (Stmt.Raise _ _ _) _) _ _ _); k_dflt (refine' raise150 ?h ?_; (case h => exact rfl); (try k_fold))) | ((with_reducible show Exists _); (rename MadeF _ _ _ _ _ _ _ _ _ => hM9); refine ⟨_, _, _, rfl, by assumption, by assumption, by assumption, by assumption, ?_⟩) | ((with_reducible show wpAny _ _ (leaving _ (Value.ref _)) _ _ _); (k_dflt first | (refine' leave_newF (hk := by rfl) ?k1 ?k2 ?_; (case k2 => assumption); (case k1 => assumption); k_whole; intro h' R' U'; (try dsimp only at R' U' ⊢)) | (refine' leave_onF ?k1 ?k2 ?k3 ?k4 ?_; (case k3 => assumption); (case k1 => assumption); (case k2 => assumption); (case k4 => assumption); k_whole; intro h' R' U'; (try dsimp only at R' U' ⊢)))) | ((with_reducible show wpAny _ _ (subscriptTail _ _ (Value.str _ _) (Value.int _ _)) _ _ _); (k_dflt (refine' item_at ?hs ?h2 ?_ (by with_unfolding_all rfl) (by intro _; with_unfolding_all rfl); (case hs => omega); (case h2 => omega); (try dsimp only))))); k_steps)))
      refine Stop.by ?_
      rename IsRange _ _ _ _ _ _ _ _ => lR
      rename Fr _ _ _ _ => lF
      rename News _ _ _ _ => lN
      rename _ < 6 => hk5
      refine LCg.CompSrc.range (n := _) (by rfl) lF lN lR (range_small0 _ (by omega)) (range_size0 _) (by size_fits) ?_
      intro gh
      refine rest_inv _ (JoI (fun c => (_, _) :: (_, _) :: (_, _) :: (_, _) :: (_, srcO c.1 c.2.1 c.2.2.1 c.2.2.2) :: _) (fun y => Pr y ∧ y.length ≤ 9)) ?stepa6 ?donea6 _ 0 [] _ (Nat.zero_add _) ⟨⟨_, _, _, _⟩, [], rfl, .nil, rfl, fun y hy => (nomatch hy)⟩
      case stepa6 =>
        clear lR lF lN
        intro i ys
        with_reducible refine joi_st ?_
        rintro x8 tx8 y8 ty8 cs hi hcs hln hgs v I' oI C' oC D' m2 h' tk' E' ⟨tv, hv⟩ hC hx cF cN off ne
        subst hv
        (try dsimp only at cN)
        (try simp only [LCg.Off3] at off)
        (k_steps; (try repeat' ((with_reducible refine Stop.by ?_); (first | ((with_reducible show wpAny _ _ (call (Value.ref 1019) _) _ _ _); k_dflt (refine' CallsToS.top ?spec ?k2 ?k1 ?k3 ?k4 ?k5 ?XB ?TB ?kK ?kd ?ku ?hm ?_; (case k2 => k_asm); (case k1 => k_asm); (case XB => k_asm); (case TB => k_asm); (case k3 => k_asm); (case k4 => k_asm); (case k5 => k_asm); (case kK => first | exact rfl | assumption); (case spec => exact right_SP _ _ _ _ _ _ _ _ _ _ _ _ (by assumption) (by assumption) (by assumption) (And.left (by assumption : Pr _ ∧ _ ≤ 9)) (by assumption) (Nat.le_trans (And.right (by assumption : Pr _ ∧ _ ≤ 9)) (by decide))); (case kd => first | decide | ktr_room); (case ku => first | decide | ktr_units); (case hm => exact fun R R' h p => h _ _ p); intro h9 tk9 F9 N9; (try dsimp only))) | ((with_reducible show wpAny _ _ (call (Value.ref 986) _) _ _ _); k_dflt (refine' CallsTo.use (one_draw _ _ _ _ _ _ _ ?h1 ?h2 _ _ _ _ _ _ _ ?hU ?hb ?hne) ?k1 ?k2 ?k3 ?k4 ?k5 ?kK ?kd ?ku ?_; (case k2 => k_asm); (case k1 => k_asm); (case k3 => k_asm); (case k4 => k_asm); (case k5 => k_asm); (case kK => first | exact rfl | assumption); (case hU => k_updF); (case hb => k_mem); (case hne => k_ne); (case h1 => first | exact Nat.le_of_ble_eq_true rfl | (rw [zS9]; decide) | (rw [zP9]; decide)); (case h2 => first | exact Nat.le_of_ble_eq_true rfl | (rw [zS9]; decide) | (rw [zP9]; decide)); (case kd => first | decide | ktr_room); (case ku => first | decide | ktr_units); intro i9 v9 hv9 x9 tx9 y9 ty9 h9 tk9 F9 N9; (try dsimp only); first | ((have hp9 : IsPub v9 := by with_reducible exact isPub hv9); clear hv9) | ((have hp9 : IsSg v9 := by first | with_reducible exact hS9 _ _ hv9 | with_reducible exact sg11 hv9); (obtain ⟨y9, t9, e9, o9⟩ := hp9); subst e9; clear hv9) | ((have hp9 : IsPc v9 := by first | with_reducible exact hP9 _ _ hv9 | with_reducible exact pc12 hv9); (obtain ⟨y9, t9, e9, o9⟩ := hp9); subst e9; clear hv9) | ((have hp9 : IsPc v9 := by with_reducible exact tl4 hv9); (obtain ⟨y9, t9, e9, o9⟩ := hp9); subst e9; clear hv9))) | ((with_reducible show wpAny _ _ (call (Value.ref 972) _) _ _ _); k_dflt (refine' CallsTo.use (pool_spec _ _ _ _ _ _ _ _ ?hI ?hn ?hb _) ?k1 ?k2 ?k3 ?k4 ?k5 ?kK ?kd ?ku ?_; (case k2 => k_asm); (case k1 => k_asm); (case k3 => k_asm); (case k4 => k_asm); (case k5 => k_asm); (case kK => first | exact rfl | assumption); (case hI => assumption); (case hn => assumption); (case hb => assumption); (case kd => first | decide | ktr_room); (case ku => first | decide | ktr_units); refine ⟨by assumption, ?_⟩; intro a9 x9 tx9 y9 ty9 l1 h9 tk9 F9 N9; (try dsimp only); (try k_lt l1))) | ((with_reducible show wpAny _ _ (call (Value.ref 1012) _) _ _ _); k_dflt (refine' CallsToS.top (told_1 _ _ _ _ _ _) ?k2 ?k1 ?k3 ?k4 ?k5 ?XB ?TB ?kK ?kd ?ku ?hm ?_; (case k2 => k_asm); (case k1 => k_asm); (case XB => k_asm); (case TB => k_asm); (case k3 => k_asm); (case k4 => k_asm); (case k5 => k_asm); (case kK => first | exact rfl | assumption); (case kd => first | decide | ktr_room); (case ku => first | decide | ktr_units); (case hm => exact fun R R' h p t0 t1 t4 t5 ev b h1 h2 h3 => h _ _ (p t0 t1 t4 t5 ev b h1 h2 h3)); (with_reducible (repeat' (first | (refine And.intro ?_ ?_) | intro))); (try dsimp only); (all_goals (try (rename (∀ p : Addr × Obj, _ ∈ _ → @LT.lt Nat _ _ _) => l1; k_lt l1))); (all_goals (try (rename (∀ p : Addr × Obj, _ ∈ _ → @LT.lt Nat _ _ _) => l1; k_lt l1))))) | ((fail_if_success (with_reducible show wpAny _ _ (call (Value.ref 986) _) _ _ _)); (fail_if_success (with_reducible show wpAny _ _ (call (Value.ref 1019) _) _ _ _)); k_dflt (refine wpAny_call ?_; (refine' code_def ?k1 ?k2 ?k3 ?k4 ?k5 ?kA ?kF ?kK ?k6 ?k7 ?k8 ?k9 ?kB ?_ ?c2 ?c3 ?c4 ?c5; (case kA | kF => exact rfl); (case kK => first | exact rfl | assumption); (case k1 | k2 | k3 | k4 | k5 => k_asm); (case k6 | k7 => k_is); (case k8 => first | exact room_0 (by assumption) | ktr_room); (case k9 => first | exact BindsTo.of_eq rfl | exact binds_K (by k_in) rfl (by k_is) rfl rfl rfl); (case c5 => decide); (case kB => exact locs rfl); (case c2 | c3 | c4 => exact rfl); k_whole; intro g' L' h' FG' F' N' B' X' T'; (try dsimp only); (try k_fold)))) | ((with_reducible show wpAny _ _ (call (Value.ref 150) _) _ _ _); k_dflt (refine' CallsTo.use (sf_call _ _ _ _ _ _ _ _ _) ?z1 ?z2 ?z3 ?z4 ?z5 ?zK ?zd ?zu ?_; (case z1 | z2 | z3 | z4 | z5 => k_asm); (case zK => first | exact rfl | assumption); (case zd => first | exact room_d (by assumption) (by exact rfl) | exact room_e (by assumption) (by exact rfl) | ktr_room); (case zu => first | exact room_u (by assumption) (by exact rfl) | exact room_v (by assumption) (by exact rfl) | exact room_x (by assumption) (by exact rfl) | exact room_w (by assumption) (by exact rfl) | exact room_y (by assumption) (by exact rfl) | ktr_units); intro e' t' oe' h' tk' hX' hg' hc' hd' hM'; (try dsimp only))) | ((with_reducible show wpAny _ _ (exec (Stmt.Raise _ _ _) _) _ _ _); k_dflt (refine' raise150 ?h ?_; (case h => exact rfl); (try k_fold))) | ((with_reducible show Exists _); (rename MadeF _ _ _ _ _ _ _ _ _ => hM9); refine ⟨_, _, _, rfl, by assumption, by assumption, by assumption, by assumption, ?_⟩) | ((with_reducible show wpAny _ _ (leaving _ (Value.ref _)) _ _ _); (k_dflt first | (refine' leave_newF (hk := by rfl) ?k1 ?k2 ?_; (case k2 => assumption); (case k1 => assumption); k_whole; intro h' R' U'; (try dsimp only at R' U' ⊢)) | (refine' leave_onF ?k1 ?k2 ?k3 ?k4 ?_; (case k3 => assumption); (case k1 => assumption); (case k2 => assumption); (case k4 => assumption); k_whole; intro h' R' U'; (try dsimp only at R' U' ⊢)))) | ((with_reducible show wpAny _ _ (subscriptTail _ _ (Value.str _ _) (Value.int _ _)) _ _ _); (k_dflt (refine' item_at ?hs ?h2 ?_ (by with_unfolding_all rfl) (by intro _; with_unfolding_all rfl); (case hs => omega); (case h2 => omega); (try dsimp only))))); k_steps)))
        refine Stop.by ?_
        refine LCg.CompEnd.intro (by assumption) (by assumption) _ (fun p hp => hp) ?offa6 trivial ⟨⟨_, _, _, _⟩, cs ++ [_], rfl, kct_snoc hcs, by rw [List.length_append, hln]; rfl, fun y hy => (List.mem_append.mp hy).elim (hgs y) fun q => by rw [List.mem_singleton.mp q]; assumption⟩
        exact off
      case donea6 =>
        clear lR lF lN
        intro ys
        with_reducible refine joi_dn ?_
        intro x8 tx8 y8 ty8 cs hcs hln hgs
        (k_steps; (try repeat' ((with_reducible refine Stop.by ?_); (first | ((with_reducible show wpAny _ _ (call (Value.ref 1019) _) _ _ _); k_dflt (refine' CallsToS.top ?spec ?k2 ?k1 ?k3 ?k4 ?k5 ?XB ?TB ?kK ?kd ?ku ?hm ?_; (case k2 => k_asm); (case k1 => k_asm); (case XB => k_asm); (case TB => k_asm); (case k3 => k_asm); (case k4 => k_asm); (case k5 => k_asm); (case kK => first | exact rfl | assumption); (case spec => exact right_SP _ _ _ _ _ _ _ _ _ _ _ _ (by assumption) (by assumption) (by assumption) (And.left (by assumption : Pr _ ∧ _ ≤ 9)) (by assumption) (Nat.le_trans (And.right (by assumption : Pr _ ∧ _ ≤ 9)) (by decide))); (case kd => first | decide | ktr_room); (case ku => first | decide | ktr_units); (case hm => exact fun R R' h p => h _ _ p); intro h9 tk9 F9 N9; (try dsimp only))) | ((with_reducible show wpAny _ _ (call (Value.ref 986) _) _ _ _); k_dflt (refine' CallsTo.use (one_draw _ _ _ _ _ _ _ ?h1 ?h2 _ _ _ _ _ _ _ ?hU ?hb ?hne) ?k1 ?k2 ?k3 ?k4 ?k5 ?kK ?kd ?ku ?_; (case k2 => k_asm); (case k1 => k_asm); (case k3 => k_asm); (case k4 => k_asm); (case k5 => k_asm); (case kK => first | exact rfl | assumption); (case hU => k_updF); (case hb => k_mem); (case hne => k_ne); (case h1 => first | exact Nat.le_of_ble_eq_true rfl | (rw [zS9]; decide) | (rw [zP9]; decide)); (case h2 => first | exact Nat.le_of_ble_eq_true rfl | (rw [zS9]; decide) | (rw [zP9]; decide)); (case kd => first | decide | ktr_room); (case ku => first | decide | ktr_units); intro i9 v9 hv9 x9 tx9 y9 ty9 h9 tk9 F9 N9; (try dsimp only); first | ((have hp9 : IsPub v9 := by with_reducible exact isPub hv9); clear hv9) | ((have hp9 : IsSg v9 := by first | with_reducible exact hS9 _ _ hv9 | with_reducible exact sg11 hv9); (obtain ⟨y9, t9, e9, o9⟩ := hp9); subst e9; clear hv9) | ((have hp9 : IsPc v9 := by first | with_reducible exact hP9 _ _ hv9 | with_reducible exact pc12 hv9); (obtain ⟨y9, t9, e9, o9⟩ := hp9); subst e9; clear hv9) | ((have hp9 : IsPc v9 := by with_reducible exact tl4 hv9); (obtain ⟨y9, t9, e9, o9⟩ := hp9); subst e9; clear hv9))) | ((with_reducible show wpAny _ _ (call (Value.ref 972) _) _ _ _); k_dflt (refine' CallsTo.use (pool_spec _ _ _ _ _ _ _ _ ?hI ?hn ?hb _) ?k1 ?k2 ?k3 ?k4 ?k5 ?kK ?kd ?ku ?_; (case k2 => k_asm); (case k1 => k_asm); (case k3 => k_asm); (case k4 => k_asm); (case k5 => k_asm); (case kK => first | exact rfl | assumption); (case hI => assumption); (case hn => assumption); (case hb => assumption); (case kd => first | decide | ktr_room); (case ku => first | decide | ktr_units); refine ⟨by assumption, ?_⟩; intro a9 x9 tx9 y9 ty9 l1 h9 tk9 F9 N9; (try dsimp only); (try k_lt l1))) | ((with_reducible show wpAny _ _ (call (Value.ref 1012) _) _ _ _); k_dflt (refine' CallsToS.top (told_1 _ _ _ _ _ _) ?k2 ?k1 ?k3 ?k4 ?k5 ?XB ?TB ?kK ?kd ?ku ?hm ?_; (case k2 => k_asm); (case k1 => k_asm); (case XB => k_asm); (case TB => k_asm); (case k3 => k_asm); (case k4 => k_asm); (case k5 => k_asm); (case kK => first | exact rfl | assumption); (case kd => first | decide | ktr_room); (case ku => first | decide | ktr_units); (case hm => exact fun R R' h p t0 t1 t4 t5 ev b h1 h2 h3 => h _ _ (p t0 t1 t4 t5 ev b h1 h2 h3)); (with_reducible (repeat' (first | (refine And.intro ?_ ?_) | intro))); (try dsimp only); (all_goals (try (rename (∀ p : Addr × Obj, _ ∈ _ → @LT.lt Nat _ _ _) => l1; k_lt l1))); (all_goals (try (rename (∀ p : Addr × Obj, _ ∈ _ → @LT.lt Nat _ _ _) => l1; k_lt l1))))) | ((fail_if_success (with_reducible show wpAny _ _ (call (Value.ref 986) _) _ _ _)); (fail_if_success (with_reducible show wpAny _ _ (call (Value.ref 1019) _) _ _ _)); k_dflt (refine wpAny_call ?_; (refine' code_def ?k1 ?k2 ?k3 ?k4 ?k5 ?kA ?kF ?kK ?k6 ?k7 ?k8 ?k9 ?kB ?_ ?c2 ?c3 ?c4 ?c5; (case kA | kF => exact rfl); (case kK => first | exact rfl | assumption); (case k1 | k2 | k3 | k4 | k5 => k_asm); (case k6 | k7 => k_is); (case k8 => first | exact room_0 (by assumption) | ktr_room); (case k9 => first | exact BindsTo.of_eq rfl | exact binds_K (by k_in) rfl (by k_is) rfl rfl rfl); (case c5 => decide); (case kB => exact locs rfl); (case c2 | c3 | c4 => exact rfl); k_whole; intro g' L' h' FG' F' N' B' X' T'; (try dsimp only); (try k_fold)))) | ((with_reducible show wpAny _ _ (call (Value.ref 150) _) _ _ _); k_dflt (refine' CallsTo.use (sf_call _ _ _ _ _ _ _ _ _) ?z1 ?z2 ?z3 ?z4 ?z5 ?zK ?zd ?zu ?_; (case z1 | z2 | z3 | z4 | z5 => k_asm); (case zK => first | exact rfl | assumption); (case zd => first | exact room_d (by assumption) (by exact rfl) | exact room_e (by assumption) (by exact rfl) | ktr_room); (case zu => first | exact room_u (by assumption) (by exact rfl) | exact room_v (by assumption) (by exact rfl) | exact room_x (by assumption) (by exact rfl) | exact room_w (by assumption) (by exact rfl) | exact room_y (by assumption) (by exact rfl) | ktr_units); intro e' t' oe' h' tk' hX' hg' hc' hd' hM'; (try dsimp only))) | ((with_reducible show wpAny _ _ (exec (Stmt.Raise _ _ _) _) _ _ _); k_dflt (refine' raise150 ?h ?_; (case h => exact rfl); (try k_fold))) | ((with_reducible show Exists _); (rename MadeF _ _ _ _ _ _ _ _ _ => hM9); refine ⟨_, _, _, rfl, by assumption, by assumption, by assumption, by assumption, ?_⟩) | ((with_reducible show wpAny _ _ (leaving _ (Value.ref _)) _ _ _); (k_dflt first | (refine' leave_newF (hk := by rfl) ?k1 ?k2 ?_; (case k2 => assumption); (case k1 => assumption); k_whole; intro h' R' U'; (try dsimp only at R' U' ⊢)) | (refine' leave_onF ?k1 ?k2 ?k3 ?k4 ?_; (case k3 => assumption); (case k1 => assumption); (case k2 => assumption); (case k4 => assumption); k_whole; intro h' R' U'; (try dsimp only at R' U' ⊢)))) | ((with_reducible show wpAny _ _ (subscriptTail _ _ (Value.str _ _) (Value.int _ _)) _ _ _); (k_dflt (refine' item_at ?hs ?h2 ?_ (by with_unfolding_all rfl) (by intro _; with_unfolding_all rfl); (case hs => omega); (case h2 => omega); (try dsimp only))))); k_steps)))
        refine Stop.by ?_
        rename News _ _ _ _ => lN
        refine join_listW (ys := cs) ⟨_, (lN _ (List.Mem.head _)).1, rfl, _, rfl⟩ (by simpa using hcs) (by decide) (by have := sum_le (B := 9) cs (fun y hy => (hgs y hy).2); omega) ?_
        intro t' k'
        rw [show Txt.join (Str.ofString "") cs = Str.join (Str.ofString "") cs from StrLaws.glued_eq_join _ _]
        obtain ⟨q1, q2⟩ := join_pr cs hgs
        have hI9 : Pr (Str.join (Str.ofString "") cs) := q1
        have hIl : (Str.join (Str.ofString "") cs).length ≤ 60 := by omega
        clear q1 q2
        generalize Str.join (Str.ofString "") cs = I at *
        (k_steps; (try repeat' ((with_reducible refine Stop.by ?_); (first | ((with_reducible show wpAny _ _ (call (Value.ref 1019) _) _ _ _); k_dflt (refine' CallsToS.top ?spec ?k2 ?k1 ?k3 ?k4 ?k5 ?XB ?TB ?kK ?kd ?ku ?hm ?_; (case k2 => k_asm); (case k1 => k_asm); (case XB => k_asm); (case TB => k_asm); (case k3 => k_asm); (case k4 => k_asm); (case k5 => k_asm); (case kK => first | exact rfl | assumption); (case spec => exact right_SP _ _ _ _ _ _ _ _ _ _ _ _ (by assumption) (by assumption) (by assumption) (And.left (by assumption : Pr _ ∧ _ ≤ 9)) (by assumption) (Nat.le_trans (And.right (by assumption : Pr _ ∧ _ ≤ 9)) (by decide))); (case kd => first | decide | ktr_room); (case ku => first | decide | ktr_units); (case hm => exact fun R R' h p => h _ _ p); intro h9 tk9 F9 N9; (try dsimp only))) | ((with_reducible show wpAny _ _ (call (Value.ref 986) _) _ _ _); k_dflt (refine' CallsTo.use (one_draw _ _ _ _ _ _ _ ?h1 ?h2 _ _ _ _ _ _ _ ?hU ?hb ?hne) ?k1 ?k2 ?k3 ?k4 ?k5 ?kK ?kd ?ku ?_; (case k2 => k_asm); (case k1 => k_asm); (case k3 => k_asm); (case k4 => k_asm); (case k5 => k_asm); (case kK => first | exact rfl | assumption); (case hU => k_updF); (case hb => k_mem); (case hne => k_ne); (case h1 => first | exact Nat.le_of_ble_eq_true rfl | (rw [zS9]; decide) | (rw [zP9]; decide)); (case h2 => first | exact Nat.le_of_ble_eq_true rfl | (rw [zS9]; decide) | (rw [zP9]; decide)); (case kd => first | decide | ktr_room); (case ku => first | decide | ktr_units); intro i9 v9 hv9 x9 tx9 y9 ty9 h9 tk9 F9 N9; (try dsimp only); first | ((have hp9 : IsPub v9 := by with_reducible exact isPub hv9); clear hv9) | ((have hp9 : IsSg v9 := by first | with_reducible exact hS9 _ _ hv9 | with_reducible exact sg11 hv9); (obtain ⟨y9, t9, e9, o9⟩ := hp9); subst e9; clear hv9) | ((have hp9 : IsPc v9 := by first | with_reducible exact hP9 _ _ hv9 | with_reducible exact pc12 hv9); (obtain ⟨y9, t9, e9, o9⟩ := hp9); subst e9; clear hv9) | ((have hp9 : IsPc v9 := by with_reducible exact tl4 hv9); (obtain ⟨y9, t9, e9, o9⟩ := hp9); subst e9; clear hv9)))); k_steps)))
        rename News _ _ _ _ => nn
        exact led_end ⟨_, _, _, _⟩ (by assumption) nn (fun p hp => by repeat (first | exact hp | refine List.Mem.tail _ ?_)) (by rfl)
end -- law
end -- rules
