import PyProof.Rows.All
import Wide.All
import OpenK.AllK
import Wide.FinOn
import PySem.Challenge.RW_nu0095_01
section
open PySem PySem.W PyProof.Rows
set_option Elab.async false
theorem PySem.W.Fast.tw8642067239939848140 : True := trivial
theorem PySem.W.Fast.tw15560500314895047343 : True := trivial
theorem PySem.W.Fast.tw3093977132361051618 : True := trivial
theorem PySem.W.Fast.tw16644606511662114574 : True := trivial
theorem PySem.W.Fast.tw17057272898397164401 : True := trivial
theorem PySem.W.Fast.tw607167704815816724 : True := trivial
theorem PySem.W.Fast.tw3424931102881643321 : True := trivial
theorem PySem.W.Fast.tw11992716968089889479 : True := trivial
theorem PySem.W.Fast.tw6434138532213402376 : True := trivial
theorem PySem.W.Fast.tw17325535178939296128 : True := trivial
theorem PySem.W.Fast.tw5923252988546675246 : True := trivial
theorem PySem.W.Fast.tw8424611434330503625 : True := trivial
theorem PySem.W.Fast.tw11838138170533393997 : True := trivial
theorem PySem.W.Fast.tw15900120412870309639 : True := trivial
theorem PySem.W.Fast.tw9467589175468403638 : True := trivial
theorem PySem.W.Fast.tw16326889199254633757 : True := trivial
theorem PySem.W.Fast.tw724751600484774222 : True := trivial
theorem PySem.W.Fast.tw5189142188285759775 : True := trivial
theorem PySem.W.Fast.tw7250012664060256230 : True := trivial
theorem PySem.W.Fast.tw10938465397075749097 : True := trivial
theorem PySem.W.Fast.tw1379578315556383370 : True := trivial
theorem PySem.W.Fast.tw11939915149646268982 : True := trivial
theorem PySem.W.Fast.tw2571919107429820419 : True := trivial
theorem PySem.W.Fast.tw9951705424602377420 : True := trivial
theorem PySem.W.Fast.tw16127339712140622707 : True := trivial
theorem PySem.W.Fast.tw16697116713213952808 : True := trivial
theorem PySem.W.Fast.tw716658179208862652 : True := trivial
theorem PySem.W.Fast.tw1218959903707654005 : True := trivial
theorem PySem.W.Fast.tw16846860572762119324 : True := trivial
theorem PySem.W.Fast.tw16406328271908756883 : True := trivial
theorem PySem.W.Fast.tw11994158751524154303 : True := trivial
theorem PySem.W.Fast.tw13759679279233594173 : True := trivial
theorem PySem.W.Fast.tw9575731206691268911 : True := trivial
theorem PySem.W.Fast.tw8620020772036689432 : True := trivial
theorem PySem.W.Fast.tw17532440430192770315 : True := trivial
theorem PySem.W.Fast.tw3118938333895590913 : True := trivial
theorem PySem.W.Fast.tw13725850141900786883 : True := trivial
theorem PySem.W.Fast.tw10030586065758793078 : True := trivial
theorem PySem.W.Fast.tw14834023430324568649 : True := trivial
theorem PySem.W.Fast.tw13016732220969518872 : True := trivial
theorem PySem.W.Fast.tw10996506086634736982 : True := trivial
theorem PySem.W.Fast.tw6380047634161181297 : True := trivial
theorem PySem.W.Fast.tw14714103240675001986 : True := trivial
theorem PySem.W.Fast.tw4824431525194463578 : True := trivial
theorem PySem.W.Fast.tw6059929106960060952 : True := trivial
theorem PySem.W.Fast.tw5853609219237828028 : True := trivial
theorem PySem.W.Fast.tw6448080314894763839 : True := trivial
theorem PySem.W.Fast.tw9787396351842916947 : True := trivial
theorem PySem.W.Fast.tw4434333111790514575 : True := trivial
theorem PySem.W.Fast.tw12456492676567594705 : True := trivial
theorem PySem.W.Fast.tw6722154040420286063 : True := trivial
theorem PySem.W.Fast.tw5976474108018559520 : True := trivial
theorem PySem.W.Fast.tw6832808476680081064 : True := trivial
theorem PySem.W.Fast.tw1536587703002861866 : True := trivial
theorem PySem.W.Fast.tw15757772284168983731 : True := trivial
theorem PySem.W.Fast.tw8703263022893421829 : True := trivial
theorem PySem.W.Fast.tw1355338860687761863 : True := trivial
theorem PySem.W.Fast.tw392140993173905013 : True := trivial
theorem PySem.W.Fast.tw5396446701170858492 : True := trivial
theorem PySem.W.Fast.tw11036193050239951465 : True := trivial
theorem PySem.W.Fast.tw16413264400604254196 : True := trivial
theorem PySem.W.Fast.tw16339471991904476338 : True := trivial
theorem PySem.W.Fast.tw10758392820592806131 : True := trivial
theorem PySem.W.Fast.tw13480552361792772618 : True := trivial
theorem PySem.W.Fast.tw17475289236778735526 : True := trivial
theorem PySem.W.Fast.tw16350708796919097252 : True := trivial
theorem PySem.W.Fast.tw7094674258960923220 : True := trivial
theorem PySem.W.Fast.tw13902233598862641821 : True := trivial
theorem PySem.W.Fast.tw17280976486791472633 : True := trivial
theorem PySem.W.Fast.tw12224578244612797663 : True := trivial
theorem PySem.W.Fast.tw1102190903223815498 : True := trivial
theorem PySem.W.Fast.tw17476080006546285661 : True := trivial
theorem PySem.W.Fast.tw2948108419219029167 : True := trivial
theorem PySem.W.Fast.tw4275521005467322725 : True := trivial
theorem PySem.W.Fast.tw2736616831223182526 : True := trivial
theorem PySem.W.Fast.tw18260038339965228139 : True := trivial
theorem PySem.W.Fast.tw3267979357774110234 : True := trivial
theorem PySem.W.Fast.tw13607416678640721797 : True := trivial
theorem PySem.W.Fast.tw4797165386629745026 : True := trivial
theorem PySem.W.Fast.tw1537898542681612871 : True := trivial
theorem PySem.W.Fast.tw9759809726879904816 : True := trivial
theorem PySem.W.Fast.tw18340240734955500558 : True := trivial
theorem PySem.W.Fast.tw1139862187096482527 : True := trivial
theorem PySem.W.Fast.tw4224760802259116069 : True := trivial
theorem PySem.W.Fast.tw17730428716208468724 : True := trivial
theorem PySem.W.Fast.tw14386061602966655976 : True := trivial
theorem PySem.W.Fast.tw9376109419431680627 : True := trivial
theorem PySem.W.Fast.tw15894407043143930727 : True := trivial
theorem PySem.W.Fast.tw4549333791460862111 : True := trivial
theorem PySem.W.Fast.tw17988542015724977305 : True := trivial
theorem PySem.W.Fast.tw14391268981414578426 : True := trivial
theorem PySem.W.Fast.tw17719373434677690450 : True := trivial
theorem PySem.W.Fast.tw3778451253796500701 : True := trivial
theorem PySem.W.Fast.tw4407734736301137906 : True := trivial
theorem PySem.W.Fast.tw11519604305632133818 : True := trivial
theorem PySem.W.Fast.tw2370425770031549630 : True := trivial
theorem PySem.W.Fast.tw14909702598903578594 : True := trivial
theorem PySem.W.Fast.tw17172517015917474193 : True := trivial
theorem PySem.W.Fast.tw15323854079317868165 : True := trivial
theorem PySem.W.Fast.tw15902184279288820625 : True := trivial
theorem PySem.W.Fast.tw10500077913531017323 : True := trivial
theorem PySem.W.Fast.tw6952355047532471503 : True := trivial
theorem PySem.W.Fast.tw8537084889766193716 : True := trivial
theorem PySem.W.Fast.tw11495947367809530248 : True := trivial
theorem PySem.W.Fast.tw1184552218554016812 : True := trivial
theorem PySem.W.Fast.tw1291980286583624508 : True := trivial
theorem PySem.W.Fast.tw7082770336023389322 : True := trivial
theorem PySem.W.Fast.tw8119918657739134586 : True := trivial
theorem PySem.W.Fast.tw3952652319720093869 : True := trivial
theorem PySem.W.Fast.tw17341736924252097559 : True := trivial
theorem PySem.W.Fast.tw4090926877573551719 : True := trivial
theorem PySem.W.Fast.tw8459811325457737761 : True := trivial
theorem PySem.W.Fast.tw10939839348159177617 : True := trivial
theorem PySem.W.Fast.tw6929956602132211858 : True := trivial
theorem PySem.W.Fast.tw219737044198020058 : True := trivial
theorem PySem.W.Fast.tw16049961110935095269 : True := trivial
theorem PySem.W.Fast.tw1414301608579184545 : True := trivial
theorem PySem.W.Fast.tw5925582254088234700 : True := trivial
theorem PySem.W.Fast.tw3325841961599345399 : True := trivial
theorem PySem.W.Fast.tw17001327861769816259 : True := trivial
theorem PySem.W.Fast.tw16916688483869632129 : True := trivial
theorem PySem.W.Fast.tw3766158894648301139 : True := trivial
theorem PySem.W.Fast.tw5721027456603625697 : True := trivial
theorem PySem.W.Fast.tw11270796479367742343 : True := trivial
theorem PySem.W.Fast.tw2504098582860672743 : True := trivial
theorem PySem.W.Fast.tw14305139224198610471 : True := trivial
theorem PySem.W.Fast.tw13036272033356848781 : True := trivial
theorem PySem.W.Fast.tw14971970265804392439 : True := trivial
theorem PySem.W.Fast.tw6426273055680023932 : True := trivial
theorem PySem.W.Fast.tw51603875194701614 : True := trivial
theorem PySem.W.Fast.tw3953757239420563355 : True := trivial
theorem PySem.W.Fast.tw2378363196638174374 : True := trivial
theorem PySem.W.Fast.tw17429684086410527887 : True := trivial
theorem PySem.W.Fast.tw17434858337260393937 : True := trivial
theorem PySem.W.Fast.tw7392212959928792091 : True := trivial
theorem PySem.W.Fast.tw17899373020297197333 : True := trivial
theorem PySem.W.Fast.tw16180483070735683940 : True := trivial
theorem PySem.W.Fast.tw6179359751918216688 : True := trivial
theorem PySem.W.Fast.tw7499937903120025604 : True := trivial
theorem PySem.W.Fast.tw12866136484021002089 : True := trivial
theorem PySem.W.Fast.tw11317593695737139937 : True := trivial
theorem PySem.W.Fast.tw2401699919119007470 : True := trivial
theorem PySem.W.Fast.tw3880421473898291048 : True := trivial
theorem PySem.W.Fast.tw18101931140130867144 : True := trivial
theorem PySem.W.Fast.tw2611137233208623240 : True := trivial
theorem PySem.W.Fast.tw13512673800721320934 : True := trivial
theorem PySem.W.Fast.tw8708707556590381134 : True := trivial
theorem PySem.W.Fast.tw9206804518496725263 : True := trivial
theorem PySem.W.Fast.tw16817318245366136608 : True := trivial
theorem PySem.W.Fast.tw13987355940573415152 : True := trivial
theorem PySem.W.Fast.tw18163708392712065173 : True := trivial
theorem PySem.W.Fast.tw9948023125614773506 : True := trivial
theorem PySem.W.Fast.tw16349804527192203551 : True := trivial
theorem PySem.W.Fast.tw5529568453561195837 : True := trivial
theorem PySem.W.Fast.tw3355348695024010778 : True := trivial
theorem PySem.W.Fast.tw15808557625122938864 : True := trivial
theorem PySem.W.Fast.tw16180582048198870337 : True := trivial
theorem PySem.W.Fast.tw16241802466949684156 : True := trivial
theorem PySem.W.Fast.tw15041003319150489328 : True := trivial
theorem PySem.W.Fast.tw13951257522405164796 : True := trivial
theorem PySem.W.Fast.tw12809422525583811893 : True := trivial
theorem PySem.W.Fast.tw17183712847048597117 : True := trivial
theorem PySem.W.Fast.tw5758256569797452207 : True := trivial
theorem PySem.W.Fast.tw7405434945208526273 : True := trivial
theorem PySem.W.Fast.tw13169248704851481478 : True := trivial
theorem PySem.W.Fast.tw3577408171920636059 : True := trivial
theorem PySem.W.Fast.tw13833065179229638619 : True := trivial
theorem PySem.W.Fast.tw10308316962582663543 : True := trivial
theorem PySem.W.Fast.tw12329403913580668285 : True := trivial
theorem PySem.W.Fast.tw2408619945344806742 : True := trivial
theorem PySem.W.Fast.tw1962928258387122110 : True := trivial
theorem PySem.W.Fast.tw16439824349840649037 : True := trivial
theorem PySem.W.Fast.tw1419416864934026935 : True := trivial
theorem PySem.W.Fast.tw11740888236361828772 : True := trivial
theorem PySem.W.Fast.tw4978915544186085027 : True := trivial
theorem PySem.W.Fast.tw8719427161674164953 : True := trivial
theorem PySem.W.Fast.tw16039550372008468697 : True := trivial
theorem PySem.W.Fast.tw17814930658547583709 : True := trivial
theorem PySem.W.Fast.tw8603108125212654177 : True := trivial
theorem PySem.W.Fast.tw15542503528162795033 : True := trivial
theorem PySem.W.Fast.tw10138199336372458610 : True := trivial
theorem PySem.W.Fast.tw12734952128020822468 : True := trivial
theorem PySem.W.Fast.tw2958062672499776758 : True := trivial
theorem PySem.W.Fast.tw9821368406582625841 : True := trivial
theorem PySem.W.Fast.tw15376083050721069600 : True := trivial
theorem PySem.W.Fast.tw17532718790514356516 : True := trivial
theorem PySem.W.Fast.tw7783732958741208154 : True := trivial
theorem PySem.W.Fast.tw2627984346626558326 : True := trivial
theorem PySem.W.Fast.tw13809362725867891129 : True := trivial
theorem PySem.W.Fast.tw17069979004554194336 : True := trivial
theorem PySem.W.Fast.tw3764465048917985505 : True := trivial
theorem PySem.W.Fast.tw11462045893675790159 : True := trivial
theorem PySem.W.Fast.tw7573151900890175926 : True := trivial
theorem PySem.W.Fast.tw4221113660925917965 : True := trivial
theorem PySem.W.Fast.tw2506853364499732696 : True := trivial
theorem PySem.W.Fast.tw1702518465993881591 : True := trivial
theorem PySem.W.Fast.tw5032809538720368765 : True := trivial
theorem PySem.W.Fast.tw7987952416473584550 : True := trivial
theorem PySem.W.Fast.tw5345256250457102556 : True := trivial
theorem PySem.W.Fast.tw13314330512976039754 : True := trivial
theorem PySem.W.Fast.tw15079194523842364033 : True := trivial
theorem PySem.W.Fast.tw2078703811421203504 : True := trivial
theorem PySem.W.Fast.tw10227693086864044499 : True := trivial
theorem PySem.W.Fast.tw6817277305950994716 : True := trivial
theorem PySem.W.Fast.tw16437185098154296904 : True := trivial
theorem PySem.W.Fast.tw8881496252177385917 : True := trivial
theorem PySem.W.Fast.tw6909570525239066004 : True := trivial
theorem PySem.W.Fast.tw10487160056961263569 : True := trivial
theorem PySem.W.Fast.tw11957962974430299695 : True := trivial
theorem PySem.W.Fast.tw17101871299007795629 : True := trivial
theorem PySem.W.Fast.tw17517737089405305841 : True := trivial
theorem PySem.W.Fast.tw2711585505577850959 : True := trivial
theorem PySem.W.Fast.tw8172093975534723114 : True := trivial
theorem PySem.W.Fast.tw14323765505736481980 : True := trivial
theorem PySem.W.Fast.tw15980859228951719591 : True := trivial
theorem PySem.W.Fast.tw1523951592034530338 : True := trivial
theorem PySem.W.Fast.tw13615603153576403970 : True := trivial
theorem PySem.W.Fast.tw6550987210724342151 : True := trivial
theorem PySem.W.Fast.tw12758646416354461303 : True := trivial
theorem PySem.W.Fast.tw8693227569615203950 : True := trivial
theorem PySem.W.Fast.tw13640514254501968386 : True := trivial
theorem PySem.W.Fast.tw8579058602437062094 : True := trivial
theorem PySem.W.Fast.tw3362959441861295915 : True := trivial
theorem PySem.W.Fast.tw14896874001708588922 : True := trivial
theorem PySem.W.Fast.tw3972328310683599613 : True := trivial
theorem PySem.W.Fast.tw17943406268862710625 : True := trivial
theorem PySem.W.Fast.tw667198328695590252 : True := trivial
theorem PySem.W.Fast.tw12095823642532355627 : True := trivial
theorem PySem.W.Fast.tw4775785305629353868 : True := trivial
theorem PySem.W.Fast.tw14981143343336467331 : True := trivial
theorem PySem.W.Fast.tw8656719876789144132 : True := trivial
theorem PySem.W.Fast.tw10919533547850550483 : True := trivial
theorem PySem.W.Fast.tw14108194823987119177 : True := trivial
theorem PySem.W.Fast.tw14311459727803291754 : True := trivial
theorem PySem.W.Fast.tw725871291056497461 : True := trivial
theorem PySem.W.Fast.tw912392155897948271 : True := trivial
theorem PySem.W.Fast.tw13252181687094117063 : True := trivial
theorem PySem.W.Fast.tw5842103066644231778 : True := trivial
theorem PySem.W.Fast.tw13746126617404028095 : True := trivial
theorem PySem.W.Fast.tw14837249469386935497 : True := trivial
theorem PySem.W.Fast.tw15112985482279097393 : True := trivial
theorem PySem.W.Fast.tw7299303143086499733 : True := trivial
theorem PySem.W.Fast.tw3865406201487662470 : True := trivial
theorem PySem.W.Fast.tw13160144027095335755 : True := trivial
theorem PySem.W.Fast.tw7581352650102555174 : True := trivial
theorem PySem.W.Fast.tw13981391230805400906 : True := trivial
theorem PySem.W.Fast.tw8017206721242287953 : True := trivial
theorem PySem.W.Fast.tw3470799630455053000 : True := trivial
theorem PySem.W.Fast.tw2759451637364818457 : True := trivial
theorem PySem.W.Fast.tw15195428891847259777 : True := trivial
theorem PySem.W.Fast.tw608726401823008365 : True := trivial
theorem PySem.W.Fast.tw4936483359421988267 : True := trivial
theorem PySem.W.Fast.tw14433975572909055671 : True := trivial
theorem PySem.W.Fast.tw12741189161924615318 : True := trivial
theorem PySem.W.Fast.tw1749818173716722547 : True := trivial
theorem PySem.W.Fast.tw5701610774189311196 : True := trivial
theorem PySem.W.Fast.tw3891137856419664920 : True := trivial
theorem PySem.W.Fast.tw7496433998918960881 : True := trivial
theorem PySem.W.Fast.tw2283851925072248500 : True := trivial
theorem PySem.W.Fast.tw13254397897704925713 : True := trivial
theorem PySem.W.Fast.tw7619357645376055252 : True := trivial
theorem PySem.W.Fast.tw12726346659333912481 : True := trivial
theorem PySem.W.Fast.tw3740020263889925745 : True := trivial
theorem PySem.W.Fast.tw10057510723706494237 : True := trivial
theorem PySem.W.Fast.tw3695515675974049574 : True := trivial
theorem PySem.W.Fast.tw6363645014702824404 : True := trivial
theorem PySem.W.Fast.tw3442601649717412197 : True := trivial
theorem PySem.W.Fast.tw1156252341971683116 : True := trivial
theorem PySem.W.Fast.tw4613930686462287906 : True := trivial
theorem PySem.W.Fast.tw3436264866546951355 : True := trivial
theorem PySem.W.Fast.tw4075660801711882420 : True := trivial
theorem PySem.W.Fast.tw14544052848187043789 : True := trivial
theorem PySem.W.Fast.tw5565278806992967083 : True := trivial
theorem PySem.W.Fast.tw6127375697748050860 : True := trivial
theorem PySem.W.Fast.tw6967401301877209104 : True := trivial
theorem PySem.W.Fast.tw17803129079492736432 : True := trivial
theorem PySem.W.Fast.tw17520869792638436183 : True := trivial
theorem PySem.W.Fast.tw11796506867022685745 : True := trivial
theorem PySem.W.Fast.tw9504726810853072989 : True := trivial
theorem PySem.W.Fast.tw13471461260053382970 : True := trivial
theorem PySem.W.Fast.tw10073347824450446311 : True := trivial
theorem PySem.W.Fast.tw16233909434411415858 : True := trivial
theorem PySem.W.Fast.tw1258299570235058372 : True := trivial
theorem PySem.W.Fast.tw5986070226099191233 : True := trivial
theorem PySem.W.Fast.tw13912434898499826684 : True := trivial
theorem PySem.W.Fast.tw7009043117176579089 : True := trivial
theorem PySem.W.Fast.tw17274371674624000324 : True := trivial
theorem PySem.W.Fast.tw1503297043503765363 : True := trivial
theorem PySem.W.Fast.tw43969757491396457 : True := trivial
theorem PySem.W.Fast.tw535072334866317008 : True := trivial
theorem PySem.W.Fast.tw11445135464325071761 : True := trivial
theorem PySem.W.Fast.tw5268983451555188008 : True := trivial
theorem PySem.W.Fast.tw11985326045990495214 : True := trivial
theorem PySem.W.Fast.tw14427280190107063356 : True := trivial
theorem PySem.W.Fast.tw14952990662201256454 : True := trivial
theorem PySem.W.Fast.tw16176465441171805009 : True := trivial
theorem PySem.W.Fast.tw13776390136698705113 : True := trivial
theorem PySem.W.Fast.tw2422670821966735624 : True := trivial
theorem PySem.W.Fast.tw7286323032743288035 : True := trivial
theorem PySem.W.Fast.tw6214688769961185500 : True := trivial
theorem PySem.W.Fast.tw282004115355043989 : True := trivial
theorem PySem.W.Fast.tw932993149863042379 : True := trivial
theorem PySem.W.Fast.tw16531745337717519161 : True := trivial
theorem PySem.W.Fast.tw7232422423428716515 : True := trivial
theorem PySem.W.Fast.tw10012070188853619799 : True := trivial
theorem PySem.W.Fast.tw1829445100760108279 : True := trivial
theorem PySem.W.Fast.tw1210750091971509897 : True := trivial
theorem PySem.W.Fast.tw12450158673883907302 : True := trivial
theorem PySem.W.Fast.tw17024950926791866790 : True := trivial
theorem PySem.W.Fast.tw4858009861420398278 : True := trivial
theorem PySem.W.Fast.tw16648231224745350325 : True := trivial
theorem PySem.W.Fast.tw10028428298569065181 : True := trivial
theorem PySem.W.Fast.tw17730448691065144110 : True := trivial
theorem PySem.W.Fast.tw16593013826814733010 : True := trivial
theorem PySem.W.Fast.tw12268644228514654432 : True := trivial
theorem PySem.W.Fast.tw2334299552400917057 : True := trivial
theorem PySem.W.Fast.tw10346894026039390216 : True := trivial
theorem PySem.W.Fast.tw3504847659760329788 : True := trivial
theorem PySem.W.Fast.tw13580328829973926956 : True := trivial
theorem PySem.W.Fast.tw6213141578215901147 : True := trivial
theorem PySem.W.Fast.tw10015664371746657536 : True := trivial
theorem PySem.W.Fast.tw3142773779024712118 : True := trivial
theorem PySem.W.Fast.tw12635297910168745909 : True := trivial
theorem PySem.W.Fast.tw16752143609539240740 : True := trivial
theorem PySem.W.Fast.tw8595292554425487202 : True := trivial
theorem PySem.W.Fast.tw18350330562280901221 : True := trivial
theorem PySem.W.Fast.tw973662469405803806 : True := trivial
theorem PySem.W.Fast.tw16869277618539721502 : True := trivial
theorem PySem.W.Fast.tw227664154600733314 : True := trivial
theorem PySem.W.Fast.tw17244072584429378644 : True := trivial
theorem PySem.W.Fast.tw682011567655089306 : True := trivial
theorem PySem.W.Fast.tw14126943448341045398 : True := trivial
theorem PySem.W.Fast.tw14224011070414065920 : True := trivial
theorem PySem.W.Fast.tw16741492637210864865 : True := trivial
theorem PySem.W.Fast.tw7229665172594901996 : True := trivial
theorem PySem.W.Fast.tw5450187663091677483 : True := trivial
theorem PySem.W.Fast.tw15480198773659482676 : True := trivial
theorem PySem.W.Fast.tw4800724452203346748 : True := trivial
theorem PySem.W.Fast.tw13317431791736044220 : True := trivial
theorem PySem.W.Fast.tw1810241217189784900 : True := trivial
theorem PySem.W.Fast.tw13900631225919944168 : True := trivial
theorem PySem.W.Fast.tw14934708107589980039 : True := trivial
theorem PySem.W.Fast.tw17537794083376710389 : True := trivial
theorem PySem.W.Fast.tw11108263761283441063 : True := trivial
theorem PySem.W.Fast.tw3264259588550801142 : True := trivial
theorem PySem.W.Fast.tw12731603968600162155 : True := trivial
theorem PySem.W.Fast.tw2460228577881660442 : True := trivial
theorem PySem.W.Fast.tw3820604794100220378 : True := trivial
theorem PySem.W.Fast.tw11892598404827812706 : True := trivial
theorem PySem.W.Fast.tw9862997608875712007 : True := trivial
theorem PySem.W.Fast.tw5882768191206486792 : True := trivial
theorem PySem.W.Fast.tw9407582987413476825 : True := trivial
theorem PySem.W.Fast.tw6654550962395885724 : True := trivial
theorem PySem.W.Fast.tw18416463498863911781 : True := trivial
theorem PySem.W.Fast.tw8860024209350480642 : True := trivial
theorem PySem.W.Fast.tw17853915177807527196 : True := trivial
theorem PySem.W.Fast.tw11518781747449614426 : True := trivial
theorem PySem.W.Fast.tw2905824091091238844 : True := trivial
theorem PySem.W.Fast.tw12022618010286034681 : True := trivial
theorem PySem.W.Fast.tw2011108890870493169 : True := trivial
theorem PySem.W.Fast.tw15034313371233782410 : True := trivial
theorem PySem.W.Fast.tw662354867322794072 : True := trivial
theorem PySem.W.Fast.tw10352308551163946355 : True := trivial
theorem PySem.W.Fast.tw11863081143760314161 : True := trivial
theorem PySem.W.Fast.tw1735497430108182060 : True := trivial
theorem PySem.W.Fast.tw8727135674562949291 : True := trivial
theorem PySem.W.Fast.tw17164873540382356111 : True := trivial
theorem PySem.W.Fast.tw13721567128424951087 : True := trivial
theorem PySem.W.Fast.tw5200128776193632040 : True := trivial
theorem PySem.W.Fast.tw5854881644878751223 : True := trivial
theorem PySem.W.Fast.tw6789855027759293466 : True := trivial
theorem PySem.W.Fast.tw9577309144901391297 : True := trivial
theorem PySem.W.Fast.tw10964334890339321822 : True := trivial
theorem PySem.W.Fast.tw15736541856241217950 : True := trivial
theorem PySem.W.Fast.tw3560238982266916124 : True := trivial
theorem PySem.W.Fast.tw2151751228089694982 : True := trivial
theorem PySem.W.Fast.tw6679490504615227074 : True := trivial
theorem PySem.W.Fast.tw18056578402003937789 : True := trivial
theorem PySem.W.Fast.tw8488268690174267210 : True := trivial
theorem PySem.W.Fast.tw10042830170769951172 : True := trivial
theorem PySem.W.Fast.tw7503421922109321716 : True := trivial
theorem PySem.W.Fast.tw11817470609975844035 : True := trivial
theorem PySem.W.Fast.tw5902227825499142635 : True := trivial
theorem PySem.W.Fast.tw387338674003428930 : True := trivial
theorem PySem.W.Fast.tw6580340599500149305 : True := trivial
theorem PySem.W.Fast.tw8376441433122354887 : True := trivial
theorem PySem.W.Fast.tw16374537267813192141 : True := trivial
theorem PySem.W.Fast.tw8253183596043897158 : True := trivial
theorem PySem.W.Fast.tw14530364306720264245 : True := trivial
theorem PySem.W.Fast.tw1041845030581493396 : True := trivial
theorem PySem.W.Fast.tw9787463984185863102 : True := trivial
theorem PySem.W.Fast.tw14097648870716263351 : True := trivial
theorem PySem.W.Fast.tw4879560196417449868 : True := trivial
theorem PySem.W.Fast.tw17913803186225011329 : True := trivial
theorem PySem.W.Fast.tw1574873078441994576 : True := trivial
theorem PySem.W.Fast.tw951843321253372498 : True := trivial
theorem PySem.W.Fast.tw5832503352825792928 : True := trivial
theorem PySem.W.Fast.tw17828083071136270317 : True := trivial
theorem PySem.W.Fast.tw1620339239838986703 : True := trivial
theorem PySem.W.Fast.tw3016524699849442398 : True := trivial
theorem PySem.W.Fast.tw13581749221687468397 : True := trivial
theorem PySem.W.Fast.tw10508251915553800215 : True := trivial
theorem PySem.W.Fast.tw1772237422875290029 : True := trivial
theorem PySem.W.Fast.tw5068434257544371817 : True := trivial
theorem PySem.W.Fast.tw11452132507678324671 : True := trivial
theorem PySem.W.Fast.tw6662432510661729299 : True := trivial
theorem PySem.W.Fast.tw14553827428707814869 : True := trivial
theorem PySem.W.Fast.tw15215539614974913122 : True := trivial
theorem PySem.W.Fast.tw5697894365363955025 : True := trivial
theorem PySem.W.Fast.tw11767421526060770920 : True := trivial
theorem PySem.W.Fast.tw16296994325663420285 : True := trivial
theorem PySem.W.Fast.tw4278798014809849964 : True := trivial
theorem PySem.W.Fast.tw15423634916342008072 : True := trivial
theorem PySem.W.Fast.tw2193789692954389824 : True := trivial
theorem PySem.W.Fast.tw12945451867199242903 : True := trivial
theorem PySem.W.Fast.tw6891000109920058784 : True := trivial
theorem PySem.W.Fast.tw4039474712603431140 : True := trivial
theorem PySem.W.Fast.tw16018607276475445134 : True := trivial
theorem PySem.W.Fast.tw757081541053455785 : True := trivial
theorem PySem.W.Fast.tw13526986893379352335 : True := trivial
theorem PySem.W.Fast.tw17552769576498331613 : True := trivial
theorem PySem.W.Fast.tw4921902886906138986 : True := trivial
theorem PySem.W.Fast.tw11964429278604863157 : True := trivial
theorem PySem.W.Fast.tw12644280186354674768 : True := trivial
theorem PySem.W.Fast.tw618205885557783147 : True := trivial
theorem PySem.W.Fast.tw17300597898927385350 : True := trivial
theorem PySem.W.Fast.tw9315938663221665524 : True := trivial
theorem PySem.W.Fast.tw10719484529398299949 : True := trivial
theorem PySem.W.Fast.tw4966893808263662355 : True := trivial
theorem PySem.W.Fast.tw7276740287692124622 : True := trivial
theorem PySem.W.Fast.tw8430678208038309684 : True := trivial
theorem PySem.W.Fast.tw17888162413812561239 : True := trivial
theorem PySem.W.Fast.tw3094477031063562474 : True := trivial
theorem PySem.W.Fast.tw3976722010076183465 : True := trivial
theorem PySem.W.Fast.tw14973007898608030118 : True := trivial
theorem PySem.W.Fast.tw8902219603052485911 : True := trivial
theorem PySem.W.Fast.tw11130039905162102590 : True := trivial
theorem PySem.W.Fast.tw16643379632663270332 : True := trivial
theorem PySem.W.Fast.tw6380782515089751550 : True := trivial
theorem PySem.W.Fast.tw10819683100428557426 : True := trivial
theorem PySem.W.Fast.tw11166942722945506595 : True := trivial
theorem PySem.W.Fast.tw2951486255847992690 : True := trivial
theorem PySem.W.Fast.tw13789449189825218787 : True := trivial
theorem PySem.W.Fast.tw18188234029961486008 : True := trivial
theorem PySem.W.Fast.tw9136488742655976645 : True := trivial
theorem PySem.W.Fast.tw8796240567053077481 : True := trivial
theorem PySem.W.Fast.tw15450981722951097364 : True := trivial
theorem PySem.W.Fast.tw12359285113459375979 : True := trivial
theorem PySem.W.Fast.tw13871001218405608335 : True := trivial
theorem PySem.W.Fast.tw13141144453892091621 : True := trivial
theorem PySem.W.Fast.tw4552823106982906706 : True := trivial
theorem PySem.W.Fast.tw14979626087600564940 : True := trivial
theorem PySem.W.Fast.tw3856783459128436802 : True := trivial
theorem PySem.W.Fast.tw16432479971616331241 : True := trivial
theorem PySem.W.Fast.tw774047393022817027 : True := trivial
theorem PySem.W.Fast.tw8610040677353227653 : True := trivial
theorem PySem.W.Fast.tw15773981995205291829 : True := trivial
theorem PySem.W.Fast.tw6291368078380397288 : True := trivial
theorem PySem.W.Fast.tw17352973434858128600 : True := trivial
theorem PySem.W.Fast.tw930746551332336609 : True := trivial
theorem PySem.W.Fast.tw8989982439271903415 : True := trivial
theorem PySem.W.Fast.tw18220123701641295943 : True := trivial
theorem PySem.W.Fast.tw7323676302269181137 : True := trivial
theorem PySem.W.Fast.tw1638017585896720355 : True := trivial
theorem PySem.W.Fast.tw6148621092414575339 : True := trivial
theorem PySem.W.Fast.tw17954471519018878134 : True := trivial
theorem PySem.W.Fast.tw15278061642289888581 : True := trivial
theorem PySem.W.Fast.tw1204117194425446250 : True := trivial
theorem PySem.W.Fast.tw15199281503961881116 : True := trivial
theorem PySem.W.Fast.tw7397068168572129948 : True := trivial
theorem PySem.W.Fast.tw12488000419048109807 : True := trivial
theorem PySem.W.Fast.tw6714822604882049554 : True := trivial
theorem PySem.W.Fast.tw1402947280878808549 : True := trivial
theorem PySem.W.Fast.tw8032284361305108907 : True := trivial
theorem PySem.W.Fast.tw5310036984924271277 : True := trivial
theorem PySem.W.Fast.tw14210447440969649564 : True := trivial
theorem PySem.W.Fast.tw1401972060568974870 : True := trivial
theorem PySem.W.Fast.tw11825729669827539873 : True := trivial
theorem PySem.W.Fast.tw11566699232636054958 : True := trivial
theorem PySem.W.Fast.tw16947794391021106201 : True := trivial
theorem PySem.W.Fast.tw16966814322356759819 : True := trivial
theorem PySem.W.Fast.tw17774800907425398282 : True := trivial
theorem PySem.W.Fast.tw18263319221461684349 : True := trivial
theorem PySem.W.Fast.tw11729385059970357855 : True := trivial
theorem PySem.W.Fast.tw6711915476519705758 : True := trivial
theorem PySem.W.Fast.tw2039238271031011813 : True := trivial
theorem PySem.W.Fast.tw3636048126100218174 : True := trivial
theorem PySem.W.Fast.tw9219426015542480343 : True := trivial
theorem PySem.W.Fast.tw17975652961387846372 : True := trivial
theorem PySem.W.Fast.tw9339011207650244144 : True := trivial
theorem PySem.W.Fast.tw7269565832213808900 : True := trivial
theorem PySem.W.Fast.tw4172830789200971933 : True := trivial
theorem PySem.W.Fast.tw4558998842232669794 : True := trivial
theorem PySem.W.Fast.tw6313222484189431382 : True := trivial
theorem PySem.W.Fast.tw16865151637890581275 : True := trivial
theorem PySem.W.Fast.tw12172078356533094185 : True := trivial
theorem PySem.W.Fast.tw9305782018832362445 : True := trivial
theorem PySem.W.Fast.tw7275051467321613617 : True := trivial
theorem PySem.W.Fast.tw16223305294053301992 : True := trivial
theorem PySem.W.Fast.tw13559156169165276386 : True := trivial
theorem PySem.W.Fast.tw10029231156530900338 : True := trivial
theorem PySem.W.Fast.tw14420389602138693270 : True := trivial
theorem PySem.W.Fast.tw9537544019596298400 : True := trivial
theorem PySem.W.Fast.tw8075568018651887793 : True := trivial
theorem PySem.W.Fast.tw17672482021469178181 : True := trivial
theorem PySem.W.Fast.tw17015423121036801654 : True := trivial
theorem PySem.W.Fast.tw9673203406766833760 : True := trivial
theorem PySem.W.Fast.tw13236226663087606529 : True := trivial
theorem PySem.W.Fast.tw7035115661146626270 : True := trivial
theorem PySem.W.Fast.tw12659028871203227004 : True := trivial
theorem PySem.W.Fast.tw6434265647005701932 : True := trivial
theorem PySem.W.Fast.tw505943868828395459 : True := trivial
theorem PySem.W.Fast.tw5111356299099525756 : True := trivial
theorem PySem.W.Fast.tw12679591844961189642 : True := trivial
theorem PySem.W.Fast.tw151948405760981731 : True := trivial
theorem PySem.W.Fast.tw5349121933718820234 : True := trivial
theorem PySem.W.Fast.tw8753696776887207221 : True := trivial
theorem PySem.W.Fast.tw4299136966843209011 : True := trivial
theorem PySem.W.Fast.tw11788150170368784547 : True := trivial
theorem PySem.W.Fast.tw9082586571710850966 : True := trivial
theorem PySem.W.Fast.tw9501820088010722379 : True := trivial
theorem PySem.W.Fast.tw16942194440817826258 : True := trivial
theorem PySem.W.Fast.tw4525517667737911620 : True := trivial
theorem PySem.W.Fast.tw16979880578912567463 : True := trivial
theorem PySem.W.Fast.tw15202239659555905331 : True := trivial
theorem PySem.W.Fast.tw11682084944484805031 : True := trivial
theorem PySem.W.Fast.tw1706496860858754268 : True := trivial
theorem PySem.W.Fast.tw4527066259768149269 : True := trivial
theorem PySem.W.Fast.tw14023627001141898710 : True := trivial
theorem PySem.W.Fast.tw10010936943081839664 : True := trivial
theorem PySem.W.Fast.tw14073706353221006472 : True := trivial
theorem PySem.W.Fast.tw2447775223705975068 : True := trivial
theorem PySem.W.Fast.tw15742981410569661332 : True := trivial
theorem PySem.W.Fast.tw15880737140895825463 : True := trivial
theorem PySem.W.Fast.tw2001226814458364393 : True := trivial
theorem PySem.W.Fast.tw11636919720809706868 : True := trivial
theorem PySem.W.Fast.tw10833955939284561965 : True := trivial
theorem PySem.W.Fast.tw1107438419126420414 : True := trivial
theorem PySem.W.Fast.tw704327219915372674 : True := trivial
theorem PySem.W.Fast.tw6125931036764729998 : True := trivial
theorem PySem.W.Fast.tw15542691292777871779 : True := trivial
theorem PySem.W.Fast.tw9151444980202551346 : True := trivial
theorem PySem.W.Fast.tw9794667896261083176 : True := trivial
theorem PySem.W.Fast.tw6122645084068987007 : True := trivial
theorem PySem.W.Fast.tw721709456127091705 : True := trivial
theorem PySem.W.Fast.tw17964007177503468958 : True := trivial
theorem PySem.W.Fast.tw15806122291839087668 : True := trivial
theorem PySem.W.Fast.tw18410474027866654770 : True := trivial
theorem PySem.W.Fast.tw13215998728584607739 : True := trivial
theorem PySem.W.Fast.tw313226197891681235 : True := trivial
theorem PySem.W.Fast.tw16417370028952169744 : True := trivial
theorem PySem.W.Fast.tw6135381517318000843 : True := trivial
theorem PySem.W.Fast.tw13551572312386263098 : True := trivial
theorem PySem.W.Fast.tw9564595351457756722 : True := trivial
theorem PySem.W.Fast.tw11420187438672877268 : True := trivial
theorem PySem.W.Fast.tw15263041282635125899 : True := trivial
theorem PySem.W.Fast.tw14884601019740666482 : True := trivial
theorem PySem.W.Fast.tw17612500589515189474 : True := trivial
theorem PySem.W.Fast.tw9236875199018929784 : True := trivial
theorem PySem.W.Fast.tw9011979029575296479 : True := trivial
theorem PySem.W.Fast.tw17394056326795013819 : True := trivial
theorem PySem.W.Fast.tw16874561944515371726 : True := trivial
theorem PySem.W.Fast.tw5149714755402479525 : True := trivial
theorem PySem.W.Fast.tw17765544955259793912 : True := trivial
theorem PySem.W.Fast.tw15562837088269578035 : True := trivial
theorem PySem.W.Fast.tw2674190319118857908 : True := trivial
theorem PySem.W.Fast.tw5518745428033880147 : True := trivial
theorem PySem.W.Fast.tw7198390536060210744 : True := trivial
theorem PySem.W.Fast.tw14223099787259518943 : True := trivial
theorem PySem.W.Fast.tw6012508502120743258 : True := trivial
theorem PySem.W.Fast.tw11543547407058413889 : True := trivial
theorem PySem.W.Fast.tw3458149446371850355 : True := trivial
theorem PySem.W.Fast.tw13642483538084851733 : True := trivial
theorem PySem.W.Fast.tw17045043414572947948 : True := trivial
theorem PySem.W.Fast.tw3698559305507148144 : True := trivial
theorem PySem.W.Fast.tw3916196269025109296 : True := trivial
theorem PySem.W.Fast.tw10948738476641704880 : True := trivial
theorem PySem.W.Fast.tw10470071008263537045 : True := trivial
theorem PySem.W.Fast.tw2719445374943340272 : True := trivial
theorem PySem.W.Fast.tw9908251947323293946 : True := trivial
theorem PySem.W.Fast.tw4904739604578439355 : True := trivial
theorem PySem.W.Fast.tw7618406622816332465 : True := trivial
theorem PySem.W.Fast.tw14333388528381170442 : True := trivial
theorem PySem.W.Fast.tw7344376507651311505 : True := trivial
theorem PySem.W.Fast.tw14186486079044719983 : True := trivial
theorem PySem.W.Fast.tw11333186260410459676 : True := trivial
theorem PySem.W.Fast.tw3105397867545767578 : True := trivial
theorem PySem.W.Fast.tw12813236842856870187 : True := trivial
theorem PySem.W.Fast.tw12522872232266410630 : True := trivial
theorem PySem.W.Fast.tw12392613427281201732 : True := trivial
theorem PySem.W.Fast.tw16873187988247708562 : True := trivial
theorem PySem.W.Fast.tw1320183511955256522 : True := trivial
theorem PySem.W.Fast.tw9458956999447867950 : True := trivial
theorem PySem.W.Fast.tw12981051755390344553 : True := trivial
theorem PySem.W.Fast.tw12233582284571471492 : True := trivial
theorem PySem.W.Fast.tw5978237884098788730 : True := trivial
theorem PySem.W.Fast.tw18011898689540126615 : True := trivial
theorem PySem.W.Fast.tw3803298628253846420 : True := trivial
theorem PySem.W.Fast.tw16414604833108395602 : True := trivial
theorem PySem.W.Fast.tw15059462757989803610 : True := trivial
theorem PySem.W.Fast.tw18273839248471157720 : True := trivial
theorem PySem.W.Fast.tw18310272354389090212 : True := trivial
theorem PySem.W.Fast.tw8098380416015320538 : True := trivial
theorem PySem.W.Fast.tw14209830616999942402 : True := trivial
theorem PySem.W.Fast.tw6993175162768986339 : True := trivial
theorem PySem.W.Fast.tw12835720964997663042 : True := trivial
theorem PySem.W.Fast.tw9265879793445154701 : True := trivial
theorem PySem.W.Fast.tw15066959818950650227 : True := trivial
theorem PySem.W.Fast.tw7650934615059315214 : True := trivial
theorem PySem.W.Fast.tw8946543629884556368 : True := trivial
theorem PySem.W.Fast.tw1258717718454355964 : True := trivial
theorem PySem.W.Fast.tw8047484207015712433 : True := trivial
theorem PySem.W.Fast.tw12393455550290869266 : True := trivial
theorem PySem.W.Fast.tw1708024556718086227 : True := trivial
theorem PySem.W.Fast.tw4658958612460137192 : True := trivial
theorem PySem.W.Fast.tw15468230090516036684 : True := trivial
theorem PySem.W.Fast.tw15823609455315575823 : True := trivial
theorem PySem.W.Fast.tw17018628822417861297 : True := trivial
theorem PySem.W.Fast.tw12177639751122801600 : True := trivial
theorem PySem.W.Fast.tw2569364866550412066 : True := trivial
theorem PySem.W.Fast.tw10670733350059645105 : True := trivial
theorem PySem.W.Fast.tw4575980220486274672 : True := trivial
theorem PySem.W.Fast.tw3327986453032591115 : True := trivial
theorem PySem.W.Fast.tw18126140380344562322 : True := trivial
theorem PySem.W.Fast.tw16292439048969090190 : True := trivial
theorem PySem.W.Fast.tw17846936440860909165 : True := trivial
theorem PySem.W.Fast.tw8999186272805695465 : True := trivial
theorem PySem.W.Fast.tw15475462885187679331 : True := trivial
theorem PySem.W.Fast.tw2478078296215019888 : True := trivial
theorem PySem.W.Fast.tw18211773271919218964 : True := trivial
theorem PySem.W.Fast.tw558745408833754511 : True := trivial
theorem PySem.W.Fast.tw11277716924127702174 : True := trivial
theorem PySem.W.Fast.tw17000155066101142889 : True := trivial
theorem PySem.W.Fast.tw7140130562030077042 : True := trivial
theorem PySem.W.Fast.tw2315820567201803617 : True := trivial
theorem PySem.W.Fast.tw4292500188555128830 : True := trivial
theorem PySem.W.Fast.tw16758808235637498351 : True := trivial
theorem PySem.W.Fast.tw16942504070071679284 : True := trivial
theorem PySem.W.Fast.tw8206430501311747189 : True := trivial
theorem PySem.W.Fast.tw15207642765257501584 : True := trivial
theorem PySem.W.Fast.tw6245536207120538393 : True := trivial
theorem PySem.W.Fast.tw15919542637913265678 : True := trivial
theorem PySem.W.Fast.tw2922074901204462755 : True := trivial
theorem PySem.W.Fast.tw11306939235166856333 : True := trivial
theorem PySem.W.Fast.tw11328821685186248670 : True := trivial
theorem PySem.W.Fast.tw6587116730350146372 : True := trivial
theorem PySem.W.Fast.tw3282434896037501709 : True := trivial
theorem PySem.W.Fast.tw17679261114430710190 : True := trivial
theorem PySem.W.Fast.tw7585139358526817783 : True := trivial
theorem PySem.W.Fast.tw8987815912523675519 : True := trivial
theorem PySem.W.Fast.tw5770868932273138760 : True := trivial
theorem PySem.W.Fast.tw1377046205977697930 : True := trivial
theorem PySem.W.Fast.tw6834602518627153040 : True := trivial
theorem PySem.W.Fast.tw17827458813498177553 : True := trivial
theorem PySem.W.Fast.tw878741703135273975 : True := trivial
theorem PySem.W.Fast.tw3386650904741475044 : True := trivial
theorem PySem.W.Fast.tw6090905460779295987 : True := trivial
theorem PySem.W.Fast.tw39160002569200845 : True := trivial
theorem PySem.W.Fast.tw16548257151911338427 : True := trivial
theorem PySem.W.Fast.tw16189536214700107852 : True := trivial
theorem PySem.W.Fast.tw14214133299417103183 : True := trivial
theorem PySem.W.Fast.tw6004533443673955352 : True := trivial
theorem PySem.W.Fast.tw12682352545654495088 : True := trivial
theorem PySem.W.Fast.tw2664551874359636763 : True := trivial
theorem PySem.W.Fast.tw17111948838632640456 : True := trivial
theorem PySem.W.Fast.tw11707371222683016368 : True := trivial
theorem PySem.W.Fast.tw15157221202141545114 : True := trivial
theorem PySem.W.Fast.tw6589095468515690095 : True := trivial
theorem PySem.W.Fast.tw6123655918767846522 : True := trivial
theorem PySem.W.Fast.tw383695940523520267 : True := trivial
theorem PySem.W.Fast.tw2660918139993853925 : True := trivial
theorem PySem.W.Fast.tw8224813933742928703 : True := trivial
theorem PySem.W.Fast.tw10007627690174824804 : True := trivial
theorem PySem.W.Fast.tw12825359941727978080 : True := trivial
theorem PySem.W.Fast.tw2370070277545300124 : True := trivial
theorem PySem.W.Fast.tw1763209079605825380 : True := trivial
theorem PySem.W.Fast.tw9285146279643344392 : True := trivial
theorem PySem.W.Fast.tw1393629259489396696 : True := trivial
theorem PySem.W.Fast.tw460243522976405022 : True := trivial
theorem PySem.W.Fast.tw16413963553889246368 : True := trivial
theorem PySem.W.Fast.tw2670528217467546775 : True := trivial
theorem PySem.W.Fast.tw15315713394281565010 : True := trivial
theorem PySem.W.Fast.tw1055568401681811165 : True := trivial
theorem PySem.W.Fast.tw3039592710220408265 : True := trivial
theorem PySem.W.Fast.tw17993156020533580102 : True := trivial
theorem PySem.W.Fast.tw8649964590619651473 : True := trivial
theorem PySem.W.Fast.tw17503288770812694035 : True := trivial
theorem PySem.W.Fast.tw17497748084772794779 : True := trivial
theorem PySem.W.Fast.tw4319705520415482375 : True := trivial
theorem PySem.W.Fast.tw12237943961548833269 : True := trivial
theorem PySem.W.Fast.tw12898947447245864913 : True := trivial
theorem PySem.W.Fast.tw9676229304581654039 : True := trivial
theorem PySem.W.Fast.tw11588390666370768167 : True := trivial
theorem PySem.W.Fast.tw11853533878840232495 : True := trivial
theorem PySem.W.Fast.tw3619232141914619222 : True := trivial
theorem PySem.W.Fast.tw18123110421147349612 : True := trivial
theorem PySem.W.Fast.tw6683783046931543321 : True := trivial
theorem PySem.W.Fast.tw2968979199505139716 : True := trivial
theorem PySem.W.Fast.tw8704618095886561957 : True := trivial
theorem PySem.W.Fast.tw8400853705098224536 : True := trivial
theorem PySem.W.Fast.tw17740709273134324012 : True := trivial
theorem PySem.W.Fast.tw15766043655864335149 : True := trivial
theorem PySem.W.Fast.tw1370275717833778536 : True := trivial
theorem PySem.W.Fast.tw2718901123391026995 : True := trivial
theorem PySem.W.Fast.tw7802139600951554647 : True := trivial
theorem PySem.W.Fast.tw14168537005229113720 : True := trivial
theorem PySem.W.Fast.tw18345786424863182364 : True := trivial
theorem PySem.W.Fast.tw1085346719588807367 : True := trivial
theorem PySem.W.Fast.tw7098571738820278039 : True := trivial
theorem PySem.W.Fast.tw389472881494512206 : True := trivial
theorem PySem.W.Fast.tw16349216596472256690 : True := trivial
theorem PySem.W.Fast.tw14112274594779413971 : True := trivial
theorem PySem.W.Fast.tw11790162104776037713 : True := trivial
theorem PySem.W.Fast.tw5823794197072137003 : True := trivial
theorem PySem.W.Fast.tw1436043675916922690 : True := trivial
theorem PySem.W.Fast.tw347637069881736656 : True := trivial
theorem PySem.W.Fast.tw11013792430000457035 : True := trivial
theorem PySem.W.Fast.tw18350638575300117064 : True := trivial
theorem PySem.W.Fast.tw10323183001455561277 : True := trivial
theorem PySem.W.Fast.tw14326252917377295143 : True := trivial
theorem PySem.W.Fast.tw17344680358763864322 : True := trivial
theorem PySem.W.Fast.tw17100903815162463580 : True := trivial
theorem PySem.W.Fast.tw7581816359482902497 : True := trivial
theorem PySem.W.Fast.tw4933834842325187142 : True := trivial
theorem PySem.W.Fast.tw13251646731365433171 : True := trivial
theorem PySem.W.Fast.tw10190238754879171395 : True := trivial
theorem PySem.W.Fast.tw10706342367453228570 : True := trivial
theorem PySem.W.Fast.tw9594665118957945026 : True := trivial
theorem PySem.W.Fast.tw4980102563643897964 : True := trivial
theorem PySem.W.Fast.tw1631149150583789468 : True := trivial
theorem PySem.W.Fast.tw16645262185327669138 : True := trivial
theorem PySem.W.Fast.tw7299951869573292228 : True := trivial
theorem PySem.W.Fast.tw13505292571300825877 : True := trivial
theorem PySem.W.Fast.tw4405960384096086239 : True := trivial
theorem PySem.W.Fast.tw17139780236743587250 : True := trivial
theorem PySem.W.Fast.tw7074795694173733578 : True := trivial
theorem PySem.W.Fast.tw9396933662098498411 : True := trivial
theorem PySem.W.Fast.tw5248340912204065574 : True := trivial
theorem PySem.W.Fast.tw12850107946570832962 : True := trivial
theorem PySem.W.Fast.tw9300948228871686676 : True := trivial
theorem PySem.W.Fast.tw6607189417530752870 : True := trivial
theorem PySem.W.Fast.tw15663404670287596823 : True := trivial
theorem PySem.W.Fast.tw7745614565497352828 : True := trivial
theorem PySem.W.Fast.tw117213463901210413 : True := trivial
theorem PySem.W.Fast.tw7483462131439158144 : True := trivial
theorem PySem.W.Fast.tw5873444086000235844 : True := trivial
theorem PySem.W.Fast.tw5135500740108067664 : True := trivial
theorem PySem.W.Fast.tw10045867985992453528 : True := trivial
namespace Mine
set_option maxRecDepth 100000 in
set_option maxHeartbeats 8000000 in
open_top hd for PySem.Challenge.rw_nu0095_01
end Mine
end
-- B1
section
open PySem PySem.W PyProof.Rows PySem.Calls PySem.Spec
set_option Elab.async false
namespace Mine
theorem xe1 {α : Type} {P : α → Prop} {G : Prop} (h : ∃ a, P a) (k : ∀ a, P a → G) : G := h.elim fun a h => k a h
theorem xe12 {α : Type} {P Q : α → Prop} {G : Prop} (h : ∃ a, P a ∧ Q a) (k : ∀ a, P a → Q a → G) : G := h.elim fun a h => k a h.1 h.2
theorem xe13 {α : Type} {P Q R : α → Prop} {G : Prop} (h : ∃ a, P a ∧ Q a ∧ R a) (k : ∀ a, P a → Q a → R a → G) : G := h.elim fun a h => k a h.1 h.2.1 h.2.2
theorem xe14 {α : Type} {P Q R S : α → Prop} {G : Prop} (h : ∃ a, P a ∧ Q a ∧ R a ∧ S a) (k : ∀ a, P a → Q a → R a → S a → G) : G := h.elim fun a h => k a h.1 h.2.1 h.2.2.1 h.2.2.2
theorem xe15 {α : Type} {P Q R S T : α → Prop} {G : Prop} (h : ∃ a, P a ∧ Q a ∧ R a ∧ S a ∧ T a) (k : ∀ a, P a → Q a → R a → S a → T a → G) : G := h.elim fun a h => k a h.1 h.2.1 h.2.2.1 h.2.2.2.1 h.2.2.2.2
theorem xe2 {α β : Type} {P : α → β → Prop} {G : Prop} (h : ∃ a b, P a b) (k : ∀ a b, P a b → G) : G := h.elim fun a h => h.elim fun b h => k a b h
theorem xe22 {α β : Type} {P Q : α → β → Prop} {G : Prop} (h : ∃ a b, P a b ∧ Q a b) (k : ∀ a b, P a b → Q a b → G) : G := h.elim fun a h => h.elim fun b h => k a b h.1 h.2
theorem xe23 {α β : Type} {P Q R : α → β → Prop} {G : Prop} (h : ∃ a b, P a b ∧ Q a b ∧ R a b) (k : ∀ a b, P a b → Q a b → R a b → G) : G := h.elim fun a h => h.elim fun b h => k a b h.1 h.2.1 h.2.2
theorem xe24 {α β : Type} {P Q R S : α → β → Prop} {G : Prop} (h : ∃ a b, P a b ∧ Q a b ∧ R a b ∧ S a b) (k : ∀ a b, P a b → Q a b → R a b → S a b → G) : G := h.elim fun a h => h.elim fun b h => k a b h.1 h.2.1 h.2.2.1 h.2.2.2
theorem xe25 {α β : Type} {P Q R S T : α → β → Prop} {G : Prop} (h : ∃ a b, P a b ∧ Q a b ∧ R a b ∧ S a b ∧ T a b) (k : ∀ a b, P a b → Q a b → R a b → S a b → T a b → G) : G := h.elim fun a h => h.elim fun b h => k a b h.1 h.2.1 h.2.2.1 h.2.2.2.1 h.2.2.2.2
theorem xe3 {α β γ : Type} {P : α → β → γ → Prop} {G : Prop} (h : ∃ a b c, P a b c) (k : ∀ a b c, P a b c → G) : G := h.elim fun a h => h.elim fun b h => h.elim fun c h => k a b c h
theorem xe32 {α β γ : Type} {P Q : α → β → γ → Prop} {G : Prop} (h : ∃ a b c, P a b c ∧ Q a b c) (k : ∀ a b c, P a b c → Q a b c → G) : G := h.elim fun a h => h.elim fun b h => h.elim fun c h => k a b c h.1 h.2
theorem xe33 {α β γ : Type} {P Q R : α → β → γ → Prop} {G : Prop} (h : ∃ a b c, P a b c ∧ Q a b c ∧ R a b c) (k : ∀ a b c, P a b c → Q a b c → R a b c → G) : G := h.elim fun a h => h.elim fun b h => h.elim fun c h => k a b c h.1 h.2.1 h.2.2
theorem xe34 {α β γ : Type} {P Q R S : α → β → γ → Prop} {G : Prop} (h : ∃ a b c, P a b c ∧ Q a b c ∧ R a b c ∧ S a b c) (k : ∀ a b c, P a b c → Q a b c → R a b c → S a b c → G) : G := h.elim fun a h => h.elim fun b h => h.elim fun c h => k a b c h.1 h.2.1 h.2.2.1 h.2.2.2
theorem xe42 {α β γ δ : Type} {P Q : α → β → γ → δ → Prop} {G : Prop} (h : ∃ a b c d, P a b c d ∧ Q a b c d) (k : ∀ a b c d, P a b c d → Q a b c d → G) : G := h.elim fun a h => h.elim fun b h => h.elim fun c h => h.elim fun d h => k a b c d h.1 h.2
theorem xe43 {α β γ δ : Type} {P Q R : α → β → γ → δ → Prop} {G : Prop} (h : ∃ a b c d, P a b c d ∧ Q a b c d ∧ R a b c d) (k : ∀ a b c d, P a b c d → Q a b c d → R a b c d → G) : G := h.elim fun a h => h.elim fun b h => h.elim fun c h => h.elim fun d h => k a b c d h.1 h.2.1 h.2.2
theorem xa2 {P Q G : Prop} (h : P ∧ Q) (k : P → Q → G) : G := k h.1 h.2
theorem xa3 {P Q R G : Prop} (h : P ∧ Q ∧ R) (k : P → Q → R → G) : G := k h.1 h.2.1 h.2.2
theorem xa4 {P Q R S G : Prop} (h : P ∧ Q ∧ R ∧ S) (k : P → Q → R → S → G) : G := k h.1 h.2.1 h.2.2.1 h.2.2.2
theorem xa5 {P Q R S T G : Prop} (h : P ∧ Q ∧ R ∧ S ∧ T) (k : P → Q → R → S → T → G) : G := k h.1 h.2.1 h.2.2.1 h.2.2.2.1 h.2.2.2.2
theorem no_some9 {α : Type} {a : α} {P : Prop} (h : none = some a) : P := nomatch h
theorem no_true9 {P : Prop} (h : false = true) : P := nomatch h
theorem no_some8 {α : Type} {a : α} {P : Prop} (h : some a = none) : P := nomatch h
theorem hide {p : Prop} (k : ∀ q : Prop, (p → q) → q) : p := k p id
set_option maxRecDepth 100000

noncomputable abbrev PR : Program := PySem.Challenge.rw_nu0095_01.row.prog
noncomputable abbrev tabs4 : List (Addr × Addr) := [(641, 637), (634, 632), (598, 594), (658, 656)]
structure Gd (w : World) (p : Program) (loose : List Str) (mean : ExcName → Option Value) (mg mb : Str → Option Value) (G : Heap) : Prop where
  X : (hd.heap_39 w.params).In G
  T : Top p loose mean mg mb G
  C : CodeAll tabs4 G
section
variable {w : World} {p : Program} {loose : List Str} {mean : ExcName → Option Value} {mg mb : Str → Option Value} {G0 : Heap}
  {name qual : Str} {params : Arguments} {body : List Stmt} {scope : Scope} {dV kV doc pm cdv ct oc : Value} {an od : Option Addr} {osl : Array (Option Value)} {f : Addr} {vs : List Value}
  {ro mu : List (Addr × Obj)} {Out : Value → List (Addr × Obj) → List (Addr × Obj) → Prop}

end
end Mine
end
-- M0
section
open PySem PySem.W PyProof.Rows PySem.Calls PySem.Spec
set_option Elab.async false
set_option linter.all false
namespace Mine
set_option maxRecDepth 100000
/-- the names of the text -/
noncomputable def nl : List Str := (["above", "address", "append", "argument", "at", "attach", "begin", "beside", "best", "beyond", "bit", "box", "bus", "call", "cause", "claim", "compare", "complete", "context", "context_at", "contexts", "count", "device", "due", "enable_at", "enabled", "end", "figure", "found", "fresh", "get", "half", "half_of", "holds", "index", "inside", "is_due", "is_high", "is_soft_due", "is_up", "k", "keep", "lap", "least", "let", "lines", "load", "many", "meets", "memory", "most", "name", "need", "need_aligned", "need_context", "need_source", "octet", "octets", "old", "one", "ones", "other", "pair", "pending", "place", "plain", "plic", "pop", "priorities", "problem", "put", "put_half", "put_octet", "put_part", "put_word", "ranks", "reason", "refused", "register", "row", "rows", "script", "self", "served", "set_line", "shift", "size", "soft", "source", "sources", "store", "stretch", "stretch_at", "stretches", "target", "thresholds", "tick", "time", "timer", "told", "trap", "turn", "up", "value", "wait", "wait_until", "way", "wire", "word", "words", "x"] : List String).map Str.ofString
-- written for the kernel: texts are held against each other sign by sign, up to the first that differs
noncomputable def eqN (l : List Nat) : List Nat → Bool := List.rec (motive := fun _ => List Nat → Bool) (fun r => List.casesOn (motive := fun _ => Bool) r true (fun _ _ => false)) (fun a _ ih r => List.casesOn (motive := fun _ => Bool) r false (fun b r => Bool.rec (motive := fun _ => Bool) false (ih r) (Nat.beq a b))) l
theorem eqN_iff : ∀ {l r : List Nat}, eqN l r = true ↔ l = r
  | [], [] => ⟨fun _ => rfl, fun _ => rfl⟩
  | [], _ :: _ => ⟨fun h => (nomatch h), fun h => (nomatch h)⟩
  | _ :: _, [] => ⟨fun h => (nomatch h), fun h => (nomatch h)⟩
  | a :: l, b :: r => by
    show (Bool.rec (motive := fun _ => Bool) false (eqN l r) (Nat.beq a b)) = true ↔ _
    cases e : Nat.beq a b with
    | true =>
      rw [Nat.eq_of_beq_eq_true e]
      exact eqN_iff.trans ⟨fun h => congrArg _ h, fun h => (List.cons.inj h).2⟩
    | false => exact ⟨fun h => (Bool.false_ne_true h).elim, fun h => (Nat.ne_of_beq_eq_false e (List.cons.inj h).1).elim⟩
noncomputable def eqS (x y : Str) : Bool := eqN x.cps.toList y.cps.toList
theorem eqS_iff {x y : Str} : eqS x y = true ↔ x = y := by
  cases x
  cases y
  exact eqN_iff.trans ⟨fun h => congrArg Str.mk (Array.toList_inj.mp h), fun h => congrArg (fun s => s.cps.toList) h⟩
theorem eqS_eq {x y : Str} : eqS x y = (x == y) := by
  rw [Bool.eq_iff_iff, eqS_iff, beq_iff_eq]
noncomputable def lookS {β : Type} (x : Str) (l : List (Str × β)) : Option β := List.rec (motive := fun _ => Option β) none (fun p _ ih => Bool.rec (motive := fun _ => Option β) ih (some p.2) (eqS x p.1)) l
theorem lookS_eq {β : Type} {x : Str} : ∀ {l : List (Str × β)}, lookS x l = l.lookup x
  | [] => rfl
  | (k, v) :: l => by
    rw [List.lookup_cons, ← eqS_eq]
    show (Bool.rec (motive := fun _ => Option β) (lookS x l) (some v) (eqS x k)) = _
    cases eqS x k with
    | true => rfl
    | false => exact lookS_eq
noncomputable def nIx (x : Str) (l : List Str) : Nat := List.rec (motive := fun _ => Nat) 0 (fun y _ ih => Bool.rec (motive := fun _ => Nat) (ih + 1) 0 (eqS x y)) l
noncomputable def nc (x : Str) : Nat := nIx x nl
noncomputable abbrev nN : Nat := 111
noncomputable def KN (c : Nat) (x : Str) : Prop := nc x = c ∧ c < nN
theorem nIx_cons {x y : Str} {l : List Str} : nIx x (y :: l) = if x = y then 0 else nIx x l + 1 := by
  show (Bool.rec (motive := fun _ => Nat) (nIx x l + 1) 0 (eqS x y)) = _
  cases e : eqS x y with
  | true => rw [if_pos (eqS_iff.mp e)]
  | false => rw [if_neg fun q => by rw [eqS_iff.mpr q] at e; cases e]
theorem nIx_at {x : Str} : ∀ {l : List Str}, nIx x l < l.length → l[nIx x l]? = some x
  | [], h => absurd h (Nat.not_lt_zero _)
  | y :: l, h => by
    rw [nIx_cons] at h ⊢
    by_cases e : x = y
    · rw [if_pos e, e]; rfl
    · rw [if_neg e] at h ⊢
      rw [List.getElem?_cons_succ]
      exact nIx_at (Nat.lt_of_succ_lt_succ h)
theorem nl_len : nl.length = nN := rfl
theorem KN.at {c : Nat} {x : Str} (h : KN c x) : nl[c]? = some x := by
  obtain ⟨rfl, h⟩ := h
  exact nIx_at (by rw [nl_len]; exact h)
theorem KN.inj {c d : Nat} {x y : Str} (h : KN c x) (h' : KN d y) : x = y ↔ c = d := by
  constructor
  · rintro rfl; exact h.1.symm.trans h'.1
  · rintro rfl; exact Option.some.inj (h.at.symm.trans h'.at)
noncomputable def kn (x : Str) : Bool := decide (nc x < nN)
theorem kn_KN {x : Str} (h : kn x = true) : KN (nc x) x := ⟨rfl, of_decide_eq_true h⟩
end Mine
end
-- M1
section
open PySem PySem.W PyProof.Rows PySem.Calls PySem.Spec
set_option Elab.async false
set_option linter.all false
set_option genSizeOf false
set_option genInjectivity false
namespace Mine
set_option maxRecDepth 100000

/-- abstract values: no tokens, addresses by number -/
inductive AV where
  | none | bool (b : Bool) | int (i : Int) | str (k : Nat) | txt | ref (i : Nat) | glob (a : Addr) | typ (t : String) | bltn (t : String)
inductive AO where
  | list (vs : List AV) | tup (vs : List AV) | dict (es : List (Nat × AV)) | pdict (es : List (Nat × AV)) | inst (C : Addr) (d : Nat) | cell (v : Option AV)
  | idict (self : Nat) (es : List (Int × AV)) | lam (body : Expr) (sc : Scope) (cl : List (Nat × Nat)) | range (a b : Int) | riter (x n : Int) | liter (l k : Nat) | titer (l k : Nat) | tab (self : Nat) (P : Addr) | exc (C : Addr) (d : Option Nat) (tb : Option Nat) (cx : Bool) | tb

noncomputable def VR (φ : Nat → Addr) (n : Nat) : AV → Value → Prop
  | .none, v => v = .none
  | .bool b, v => v = .bool b
  | .int i, v => ∃ t, v = .int i t
  | .str k, v => ∃ x t, v = .str x t ∧ KN k x
  | .txt, v => ∃ k t, v = .str k t
  | .ref i, v => i < n ∧ v = .ref (φ i)
  | .glob a, v => v = .ref a
  | .typ t, v => v = .type t
  | .bltn t, v => v = .builtin t

inductive All2 {α β : Type} (R : α → β → Prop) : List α → List β → Prop
  | nil : All2 R [] []
  | cons {a : α} {b : β} {l : List α} {r : List β} : R a b → All2 R l r → All2 R (a :: l) (b :: r)
theorem All2.mono {α β : Type} {R S : α → β → Prop} (h : ∀ a b, R a b → S a b) : ∀ {l : List α} {r : List β}, All2 R l r → All2 S l r := fun t => by
  induction t with
  | nil => exact .nil
  | cons x t ih => exact .cons (h _ _ x) ih
theorem All2.length {α β : Type} {R : α → β → Prop} : ∀ {l : List α} {r : List β}, All2 R l r → l.length = r.length := fun t => by
  induction t with
  | nil => rfl
  | cons _ t ih => exact congrArg (· + 1) ih

noncomputable def ER (φ : Nat → Addr) (n : Nat) (P : World) (p : Nat × AV) (e : DictEntry) : Prop := ∃ x, KN p.1 x ∧ (∃ t, e.key = .str x t) ∧ e.hash = PyData.keyHash P.params x ∧ VR φ n p.2 e.val
/-- cells by name -/
noncomputable def CR (φ : Nat → Addr) (n : Nat) (p : Nat × Nat) (q : Str × Addr) : Prop := KN p.1 q.1 ∧ q.2 = φ p.2 ∧ p.2 < n
noncomputable def noArgs : Arguments := ⟨[], [], none, [], [], none, []⟩
inductive Trip : List Value → Prop
  | nil : Trip []
  | cons {a b : Int} {t u : Tok} {c : Addr} {r : List Value} : Trip r → Trip (.int a t :: .int b u :: .ref c :: r)

noncomputable def OR (φ : Nat → Addr) (n : Nat) (P : World) : AO → Obj → Prop
  | .list vs, o => ∃ ws c, o = listOf ws.toArray c ∧ All2 (VR φ n) vs ws
  | .tup vs, o => ∃ ws c, o = { cls := .type "tuple", data := .seq ws.toArray c } ∧ All2 (VR φ n) vs ws
  | .dict es, o => ∃ es' c, o = dictOf es' c ∧ All2 (ER φ n P) es es'
  | .pdict es, o => ∃ kvs, Obj.IsDictOf (strKind PR P) o kvs ∧ All2 (fun p q => KN p.1 q.1 ∧ VR φ n p.2 q.2) es kvs
  | .inst C d, o => d < n ∧ o = instObj C (φ d)
  | .cell v, o => ∃ w, o.data = .cell w ∧ (match v, w with | some a, some b => VR φ n a b | _, _ => v = Option.none)
  | .idict i es, o => i < n ∧ (φ i == sysModules) = false ∧ ∃ kvs, Obj.IsDictOf (intKind PR P) o kvs ∧ All2 (fun p q => q.1 = p.1 ∧ VR φ n p.2 q.2) es kvs
  | .lam body sc cl, o => ∃ nm qual pm c ctv clos, o = kla_obj nm qual noArgs body sc clos pm c ctv ∧ All2 (CR φ n) cl clos
  | .range a b, o => ∃ t u v, o = { cls := .type "range", dict := none, data := .fields #[.int a t, .int b u, .int 1 v], slots := #[] }
  | .riter x k, o => o = { cls := .type "range_iterator", dict := none, data := .fields #[rawInt x, rawInt k, rawInt 1], slots := #[] }
  | .liter l k, o => l < n ∧ o.cls = .type "list_iterator" ∧ o.data = .fields #[.ref (φ l), .int k 0]
  | .titer l k, o => l < n ∧ o.cls = .type "tuple_iterator" ∧ o.data = .fields #[.ref (φ l), .int k 0]
  | .tab i P, o => i < n ∧ φ i = P ∧ ∃ ps, o = tabObj ps ∧ Trip ps.toList
  | .exc C d tb cx, o => (∀ i, d = some i → i < n) ∧ (∃ vs sl, o = { cls := .ref C, dict := d.map φ, data := .fields vs, slots := sl } ∧ vs.size = 6 ∧ vs[1]? = some (match tb with | none => .none | some t => .ref (φ t)) ∧ (cx = true → vs[2]? = some .none)) ∧ (∀ t, tb = some t → t < n)
  | .tb, o => ∃ ts, o.data = .fields ts ∧ ts[3]? = some .none

structure Hp where
  cells : List (Nat × AO)
  next : Nat
-- written for the kernel: one step a cell
noncomputable def getO (i : Nat) (l : List (Nat × AO)) : Option AO := List.rec (motive := fun _ => Option AO) none (fun p _ ih => Bool.rec ih (some p.2) (Nat.beq i p.1)) l
noncomputable def Hp.get (H : Hp) (i : Nat) : Option AO := getO i H.cells
noncomputable def setL (i : Nat) (o : AO) (l : List (Nat × AO)) : List (Nat × AO) := List.rec (motive := fun _ => List (Nat × AO)) [] (fun p l ih => Bool.rec (p :: ih) ((i, o) :: l) (Nat.beq i p.1)) l
theorem getO_cons {i j : Nat} {b : AO} {l : List (Nat × AO)} : getO i ((j, b) :: l) = match i == j with | true => some b | false => getO i l := by
  show Bool.rec (motive := fun _ => Option AO) (getO i l) (some b) (Nat.beq i j) = _
  induction h : Nat.beq i j with
  | true => rw [Nat.eq_of_beq_eq_true h, beq_self_eq_true]
  | false => rw [show (i == j) = false from by simpa using fun e : i = j => Nat.ne_of_beq_eq_false h e]
theorem setL_cons {i : Nat} {o : AO} {p : Nat × AO} {l : List (Nat × AO)} : setL i o (p :: l) = if p.1 = i then (i, o) :: l else p :: setL i o l := by
  show Bool.rec (motive := fun _ => List (Nat × AO)) (p :: setL i o l) ((i, o) :: l) (Nat.beq i p.1) = _
  induction h : Nat.beq i p.1 with
  | true => rw [if_pos (Nat.eq_of_beq_eq_true h).symm]
  | false => rw [if_neg fun e => Nat.ne_of_beq_eq_false h e.symm]
noncomputable def AO.list? : AO → Option (List AV) | .list vs => some vs | _ => none
noncomputable def AO.tup? : AO → Option (List AV) | .tup vs => some vs | _ => none
noncomputable def AO.dict? : AO → Option (List (Nat × AV)) | .dict vs => some vs | _ => none
noncomputable def AO.pd? : AO → Option (List (Nat × AV)) | .pdict vs => some vs | _ => none
noncomputable def AO.inst? : AO → Option (Addr × Nat) | .inst C d => some (C, d) | _ => none
noncomputable def AO.cell? : AO → Option (Option AV) | .cell v => some v | _ => none
noncomputable def AO.idict? : AO → Option (Nat × List (Int × AV)) | .idict i es => some (i, es) | _ => none
noncomputable def AO.exc? : AO → Option (Addr × Option Nat × Option Nat × Bool) | .exc C d t c => some (C, d, t, c) | _ => none
noncomputable def AO.range? : AO → Option (Int × Int) | .range a b => some (a, b) | _ => none
noncomputable def AO.lam? : AO → Option (Expr × Scope × List (Nat × Nat)) | .lam b s l => some (b, s, l) | _ => none
noncomputable def AO.tab? : AO → Option (Nat × Addr) | .tab i P => some (i, P) | _ => none
noncomputable def AO.tb? : AO → Bool | .tb => true | _ => false
noncomputable def Hp.list (H : Hp) (i : Nat) : Option (List AV) := (H.get i).bind AO.list?
noncomputable def Hp.tup (H : Hp) (i : Nat) : Option (List AV) := (H.get i).bind AO.tup?
noncomputable def Hp.dict (H : Hp) (i : Nat) : Option (List (Nat × AV)) := (H.get i).bind AO.dict?
noncomputable def Hp.pd (H : Hp) (i : Nat) : Option (List (Nat × AV)) := (H.get i).bind AO.pd?
noncomputable def Hp.inst (H : Hp) (i : Nat) : Option (Addr × Nat) := (H.get i).bind AO.inst?
noncomputable def Hp.cell (H : Hp) (i : Nat) : Option (Option AV) := (H.get i).bind AO.cell?
noncomputable def Hp.idict (H : Hp) (i : Nat) : Option (Nat × List (Int × AV)) := (H.get i).bind AO.idict?
noncomputable def Hp.exc (H : Hp) (i : Nat) : Option (Addr × Option Nat × Option Nat × Bool) := (H.get i).bind AO.exc?
noncomputable def Hp.range (H : Hp) (i : Nat) : Option (Int × Int) := (H.get i).bind AO.range?
noncomputable def Hp.lam (H : Hp) (i : Nat) : Option (Expr × Scope × List (Nat × Nat)) := (H.get i).bind AO.lam?
noncomputable def Hp.tab (H : Hp) (i : Nat) : Option (Nat × Addr) := (H.get i).bind AO.tab?
noncomputable def Hp.isTb (H : Hp) (i : Nat) : Bool := ((H.get i).map AO.tb?).getD false
theorem Hp.list_eq {H : Hp} {i : Nat} {vs} (h : H.list i = some vs) : H.get i = some (.list vs) := by
  obtain ⟨o, e, h⟩ := Option.bind_eq_some_iff.mp h; revert h; unfold AO.list?; split <;> intro h <;> cases h; exact e
theorem Hp.tup_eq {H : Hp} {i : Nat} {vs} (h : H.tup i = some vs) : H.get i = some (.tup vs) := by
  obtain ⟨o, e, h⟩ := Option.bind_eq_some_iff.mp h; revert h; unfold AO.tup?; split <;> intro h <;> cases h; exact e
theorem Hp.dict_eq {H : Hp} {i : Nat} {vs} (h : H.dict i = some vs) : H.get i = some (.dict vs) := by
  obtain ⟨o, e, h⟩ := Option.bind_eq_some_iff.mp h; revert h; unfold AO.dict?; split <;> intro h <;> cases h; exact e
theorem Hp.pd_eq {H : Hp} {i : Nat} {vs} (h : H.pd i = some vs) : H.get i = some (.pdict vs) := by
  obtain ⟨o, e, h⟩ := Option.bind_eq_some_iff.mp h; revert h; unfold AO.pd?; split <;> intro h <;> cases h; exact e
theorem Hp.inst_eq {H : Hp} {i : Nat} {C d} (h : H.inst i = some (C, d)) : H.get i = some (.inst C d) := by
  obtain ⟨o, e, h⟩ := Option.bind_eq_some_iff.mp h; revert h; unfold AO.inst?; split <;> intro h <;> cases h; exact e
theorem Hp.cell_eq {H : Hp} {i : Nat} {v} (h : H.cell i = some v) : H.get i = some (.cell v) := by
  obtain ⟨o, e, h⟩ := Option.bind_eq_some_iff.mp h; revert h; unfold AO.cell?; split <;> intro h <;> cases h; exact e
theorem Hp.idict_eq {H : Hp} {i : Nat} {j es} (h : H.idict i = some (j, es)) : H.get i = some (.idict j es) := by
  obtain ⟨o, e, h⟩ := Option.bind_eq_some_iff.mp h; revert h; unfold AO.idict?; split <;> intro h <;> cases h; exact e
theorem Hp.exc_eq {H : Hp} {i : Nat} {C d t c} (h : H.exc i = some (C, d, t, c)) : H.get i = some (.exc C d t c) := by
  obtain ⟨o, e, h⟩ := Option.bind_eq_some_iff.mp h; revert h; unfold AO.exc?; split <;> intro h <;> cases h; exact e
theorem Hp.range_eq {H : Hp} {i : Nat} {a b} (h : H.range i = some (a, b)) : H.get i = some (.range a b) := by
  obtain ⟨o, e, h⟩ := Option.bind_eq_some_iff.mp h; revert h; unfold AO.range?; split <;> intro h <;> cases h; exact e
theorem Hp.lam_eq {H : Hp} {i : Nat} {b s l} (h : H.lam i = some (b, s, l)) : H.get i = some (.lam b s l) := by
  obtain ⟨o, e, h⟩ := Option.bind_eq_some_iff.mp h; revert h; unfold AO.lam?; split <;> intro h <;> cases h; exact e
theorem Hp.tab_eq {H : Hp} {i : Nat} {j P} (h : H.tab i = some (j, P)) : H.get i = some (.tab j P) := by
  obtain ⟨o, e, h⟩ := Option.bind_eq_some_iff.mp h; revert h; unfold AO.tab?; split <;> intro h <;> cases h; exact e
theorem Hp.isTb_eq {H : Hp} {i : Nat} (h : H.isTb i = true) : H.get i = some .tb := by
  unfold Hp.isTb at h
  induction e : H.get i with
  | none => rw [e] at h; exact no_true9 h
  | some o => rw [e] at h; revert h; show AO.tb? o = true → _; unfold AO.tb?; split <;> intro h; rfl; cases h
noncomputable def Hp.set (H : Hp) (i : Nat) (o : AO) : Hp := ⟨setL i o H.cells, H.next⟩
noncomputable def Hp.push (H : Hp) (o : AO) : Hp := ⟨(H.next, o) :: H.cells, H.next + 1⟩

noncomputable def putS {α : Type} (x : Nat) (v : α) : List (Nat × α) → List (Nat × α)
  | [] => [(x, v)]
  | p :: l => if p.1 = x then (x, v) :: l else p :: putS x v l
structure Frm where
  loc : List (Nat × AV)
  cl : List (Nat × Nat)

/-- later numbers leave the old ones -/
noncomputable def Ext (φ : Nat → Addr) (n : Nat) (φ' : Nat → Addr) (n' : Nat) : Prop := n ≤ n' ∧ ∀ i, i < n → φ' i = φ i
theorem Ext.refl {φ : Nat → Addr} {n : Nat} : Ext φ n φ n := ⟨Nat.le_refl _, fun _ _ => rfl⟩
theorem Ext.trans {φ φ' φ'' : Nat → Addr} {n n' n'' : Nat} (a : Ext φ n φ' n') (b : Ext φ' n' φ'' n'') : Ext φ n φ'' n'' :=
  ⟨Nat.le_trans a.1 b.1, fun i hi => (b.2 i (Nat.lt_of_lt_of_le hi a.1)).trans (a.2 i hi)⟩
theorem VR.ext {φ φ' : Nat → Addr} {n n' : Nat} (h : Ext φ n φ' n') : ∀ {a : AV} {v : Value}, VR φ n a v → VR φ' n' a v
  | .none, _, r => r
  | .bool _, _, r => r
  | .int _, _, r => r
  | .str _, _, r => r
  | .txt, _, r => r
  | .ref i, _, r => ⟨Nat.lt_of_lt_of_le r.1 h.1, by rw [h.2 i r.1]; exact r.2⟩
  | .glob _, _, r => r
  | .typ _, _, r => r
  | .bltn _, _, r => r
theorem ER.ext {φ φ' : Nat → Addr} {n n' : Nat} {P : World} (h : Ext φ n φ' n') {p : Nat × AV} {e : DictEntry} (r : ER φ n P p e) : ER φ' n' P p e := let ⟨x, a, b, c, d⟩ := r; ⟨x, a, b, c, d.ext h⟩
theorem CR.ext {φ φ' : Nat → Addr} {n n' : Nat} (h : Ext φ n φ' n') {p : Nat × Nat} {q : Str × Addr} (r : CR φ n p q) : CR φ' n' p q := ⟨r.1, r.2.1.trans (h.2 _ r.2.2).symm, Nat.lt_of_lt_of_le r.2.2 h.1⟩
theorem OR.ext {φ φ' : Nat → Addr} {n n' : Nat} {P : World} (h : Ext φ n φ' n') : ∀ {a : AO} {o : Obj}, OR φ n P a o → OR φ' n' P a o := fun {a o} q => by
  induction a with
  | list vs => obtain ⟨ws, c, e, r⟩ := q; exact ⟨ws, c, e, r.mono fun _ _ => VR.ext h⟩
  | tup vs => obtain ⟨ws, c, e, r⟩ := q; exact ⟨ws, c, e, r.mono fun _ _ => VR.ext h⟩
  | dict vs => obtain ⟨ws, c, e, r⟩ := q; exact ⟨ws, c, e, r.mono fun _ _ => ER.ext h⟩
  | pdict vs => obtain ⟨kvs, e, r⟩ := q; exact ⟨kvs, e, r.mono fun _ _ x => ⟨x.1, x.2.ext h⟩⟩
  | inst C d => exact ⟨Nat.lt_of_lt_of_le q.1 h.1, by rw [h.2 d q.1]; exact q.2⟩
  | cell v =>
    refine xe12 (q) fun w e r => ?_
    exact ⟨w, e, by
      cases v <;> cases w <;> first | exact r | exact VR.ext h r | exact absurd r (by simp)⟩
  | idict i es => obtain ⟨hi, hm, kvs, e, r⟩ := q; exact ⟨Nat.lt_of_lt_of_le hi h.1, by rw [h.2 i hi]; exact hm, kvs, e, r.mono fun _ _ x => ⟨x.1, x.2.ext h⟩⟩
  | lam b sc cl => obtain ⟨nm, qual, pm, c, ctv, clos, e, a⟩ := q; exact ⟨nm, qual, pm, c, ctv, clos, e, a.mono fun _ _ => CR.ext h⟩
  | range a b => exact q
  | riter a b => exact q
  | liter l k => exact ⟨Nat.lt_of_lt_of_le q.1 h.1, q.2.1, by rw [h.2 l q.1]; exact q.2.2⟩
  | titer l k => exact ⟨Nat.lt_of_lt_of_le q.1 h.1, q.2.1, by rw [h.2 l q.1]; exact q.2.2⟩
  | tab i P => exact ⟨Nat.lt_of_lt_of_le q.1 h.1, (h.2 i q.1).trans q.2.1, q.2.2⟩
  | exc C d tb cx =>
    obtain ⟨hd, ⟨vs, sl, e, e0, e1, ec⟩, e2⟩ := q
    refine ⟨fun i hi => Nat.lt_of_lt_of_le (hd i hi) h.1, ⟨vs, sl, ?_, e0, ?_, ec⟩, fun t ht => Nat.lt_of_lt_of_le (e2 t ht) h.1⟩
    · induction d with
      | none => exact e
      | some i => rw [e]; show _ = Obj.mk _ (some (φ' i)) _ _; rw [h.2 i (hd i rfl)]; rfl
    · induction tb with
      | none => exact e1
      | some t => dsimp only at e1 ⊢; rw [show φ' t = φ t from h.2 t (e2 t rfl)]; exact e1
  | tb => exact q

/-- the ledger bears the abstract heap (and what must be kept to the letter, ks) -/
structure LR0 (φ : Nat → Addr) (P : World) (ks : List (Addr × Obj)) (H : Hp) (news : List (Addr × Obj)) : Prop where
  all : ∃ led, news = led ++ ks ∧ All2 (fun p q => q.1 = φ p.1 ∧ OR φ H.next P p.2 q.2) H.cells led
  off : ∀ p ∈ H.cells, ∀ q ∈ ks, q.1 ≠ φ p.1
  lt : ∀ p ∈ H.cells, p.1 < H.next
  inj : ∀ p ∈ H.cells, ∀ q ∈ H.cells, φ p.1 = φ q.1 → p.1 = q.1
  nd : (H.cells.map (·.1)).Nodup

theorem all2_lookup {φ : Nat → Addr} {R : AO → Obj → Prop} : ∀ {l : List (Nat × AO)} {news : List (Addr × Obj)}, All2 (fun p q => q.1 = φ p.1 ∧ R p.2 q.2) l news → ∀ {i : Nat} {a : AO}, getO i l = some a → ∃ o, (φ i, o) ∈ news ∧ R a o := fun t => by
  induction t with
  | nil => intro i a e; exact no_some9 e
  | @cons p q l r xy t ih =>
    intro i a e
    obtain ⟨j, b⟩ := p
    obtain ⟨c, o⟩ := q
    refine xa2 (xy) fun x y => ?_
    rw [getO_cons] at e
    by_cases h : i = j
    · subst h
      rw [beq_self_eq_true] at e
      obtain rfl := Option.some.inj e
      exact ⟨o, by rw [show c = φ i from x]; exact .head _, y⟩
    · rw [show (i == j) = false from by simpa using h] at e
      refine xe12 (ih e) fun o' h1 h2 => ?_
      exact ⟨o', .tail _ h1, h2⟩
theorem LR0.get {φ : Nat → Addr} {P : World} {ks : List (Addr × Obj)} {H : Hp} {news : List (Addr × Obj)} (L : LR0 φ P ks H news) {i : Nat} {a : AO} (e : H.get i = some a) : ∃ o, (φ i, o) ∈ news ∧ OR φ H.next P a o := by
  obtain ⟨led, rfl, h⟩ := L.all
  refine xe12 (all2_lookup h e) fun o h1 h2 => ?_
  exact ⟨o, List.mem_append_left _ h1, h2⟩
theorem lookup_lt : ∀ {l : List (Nat × AO)} {i : Nat} {a : AO}, getO i l = some a → (i, a) ∈ l
  | [], _, _, e => by exact no_some9 e
  | (j, b) :: l, i, a, e => by
    rw [getO_cons] at e
    by_cases h : i = j
    · subst h; rw [beq_self_eq_true] at e; obtain rfl := Option.some.inj e; exact .head _
    · rw [show (i == j) = false from by simpa using h] at e; exact .tail _ (lookup_lt e)
theorem LR0.idLt {φ : Nat → Addr} {P : World} {ks : List (Addr × Obj)} {H : Hp} {news : List (Addr × Obj)} (L : LR0 φ P ks H news) {i : Nat} {a : AO} (e : H.get i = some a) : i < H.next := L.lt _ (lookup_lt e)

theorem all2_keys {φ : Nat → Addr} {R : AO → Obj → Prop} : ∀ {l : List (Nat × AO)} {news : List (Addr × Obj)}, All2 (fun p q => q.1 = φ p.1 ∧ R p.2 q.2) l news → ∀ q ∈ news, ∃ p ∈ l, q.1 = φ p.1 := fun t => by
  induction t with
  | nil => exact fun _ h => nomatch h
  | cons x t ih =>
    intro q h
    rcases List.mem_cons.mp h with rfl | h
    · exact ⟨_, .head _, x.1⟩
    · refine xe12 (ih q h) fun p hp e => ?_
      exact ⟨p, .tail _ hp, e⟩
theorem all2_upd {φ : Nat → Addr} {P : World} {n : Nat} : ∀ {l : List (Nat × AO)} {news : List (Addr × Obj)}, All2 (fun p q => q.1 = φ p.1 ∧ OR φ n P p.2 q.2) l news →
    (∀ p ∈ l, ∀ q ∈ l, φ p.1 = φ q.1 → p.1 = q.1) → (l.map (·.1)).Nodup → ∀ {i : Nat} {a : AO}, getO i l = some a →
    ∃ o, OR φ n P a o ∧ (φ i, o) ∈ news ∧ ∀ {a' : AO} {o' : Obj}, OR φ n P a' o' → ∃ news', Upd (φ i) o o' news news' ∧ All2 (fun p q => q.1 = φ p.1 ∧ OR φ n P p.2 q.2) (setL i a' l) news' := fun t => by
  induction t with
  | nil => intro _ _ i a e; exact no_some9 e
  | @cons p q l r xy t ih =>
    intro inj hn i a e
    obtain ⟨j, b⟩ := p
    obtain ⟨c, o⟩ := q
    refine xa2 (xy) fun x y => ?_
    rw [getO_cons] at e
    rw [List.map_cons, List.nodup_cons] at hn
    dsimp only at x y
    by_cases h : i = j
    · subst h
      rw [beq_self_eq_true] at e
      obtain rfl := Option.some.inj e
      subst x
      refine ⟨o, y, .head _, fun {a' o'} h' => ⟨(φ i, o') :: r, .head fun q hq z => ?_, ?_⟩⟩
      · refine xe12 (all2_keys t q hq) fun p hp e => ?_
        have := inj p (.tail _ hp) (i, _) (.head _) (e ▸ z)
        exact hn.1 (List.mem_map.mpr ⟨p, hp, this⟩)
      · rw [setL_cons, if_pos rfl]; exact .cons ⟨rfl, h'⟩ t
    · rw [show (i == j) = false from by simpa using h] at e
      refine xe13 (ih (fun p hp q hq => inj p (.tail _ hp) q (.tail _ hq)) hn.2 e) fun o1 h1 h2 h3 => ?_
      refine ⟨o1, h1, .tail _ h2, fun {a' o'} h' => ?_⟩
      refine xe12 (h3 h') fun n' u z => ?_
      refine ⟨(c, o) :: n', .tail (fun q => h ?_) u, ?_⟩
      · have q' : φ j = φ i := by rw [← x]; exact q
        exact (inj (j, b) (.head _) (i, a) (.tail _ (lookup_lt e)) q').symm
      · rw [setL_cons, if_neg (fun z => h z.symm)]; exact .cons ⟨x, y⟩ z
theorem setL_keys (i : Nat) (o : AO) : ∀ (l : List (Nat × AO)), (setL i o l).map (·.1) = l.map (·.1)
  | [] => rfl
  | p :: l => by
    rw [setL_cons]
    by_cases h : p.1 = i
    · rw [if_pos h, List.map_cons, List.map_cons, h]
    · rw [if_neg h, List.map_cons, List.map_cons, setL_keys i o l]
theorem setL_mem {i : Nat} {o : AO} {l : List (Nat × AO)} {p : Nat × AO} (hp : p ∈ setL i o l) : ∃ q ∈ l, q.1 = p.1 := by
  have : p.1 ∈ (setL i o l).map (·.1) := List.mem_map_of_mem hp
  rw [setL_keys] at this
  exact List.mem_map.mp this
theorem Upd.appK {d : Addr} {o o' : Obj} {l l' ks : List (Addr × Obj)} (h : Upd d o o' l l') (hk : ∀ q ∈ ks, q.1 ≠ d) : Upd d o o' (l ++ ks) (l' ++ ks) := by
  induction h with
  | head h => exact .head fun q hq => (List.mem_append.mp hq).elim (h q) (hk q)
  | tail h _ ih => exact .tail h ih
theorem LR0.upd {φ : Nat → Addr} {P : World} {ks : List (Addr × Obj)} {H : Hp} {news : List (Addr × Obj)} (L : LR0 φ P ks H news) {i : Nat} {a : AO} (e : H.get i = some a) :
    ∃ o, OR φ H.next P a o ∧ (φ i, o) ∈ news ∧ ∀ {a' : AO} {o' : Obj}, OR φ H.next P a' o' → ∃ news', Upd (φ i) o o' news news' ∧ LR0 φ P ks (H.set i a') news' := by
  obtain ⟨led, rfl, hall⟩ := L.all
  refine xe13 (all2_upd hall L.inj L.nd e) fun o h1 h2 h3 => ?_
  refine ⟨o, h1, List.mem_append_left _ h2, fun {a' o'} h' => ?_⟩
  refine xe12 (h3 h') fun n' u z => ?_
  refine ⟨n' ++ ks, Upd.appK u (fun q hq => L.off _ (lookup_lt e) q hq), ⟨⟨n', rfl, z⟩, fun p hp q hq => ?_, fun p hp => ?_, fun p hp q hq e => ?_, by rw [show (H.set i a').cells = setL i a' H.cells from rfl, setL_keys]; exact L.nd⟩⟩
  · refine xe12 (setL_mem hp) fun p' hp' e => ?_
    rw [← e]; exact L.off p' hp' q hq
  · refine xe12 (setL_mem hp) fun q hq e => ?_
    exact e ▸ L.lt q hq
  · refine xe12 (setL_mem hp) fun p' hp' ep => ?_
    refine xe12 (setL_mem hq) fun q' hq' eq => ?_
    rw [← ep, ← eq] at e ⊢
    exact L.inj p' hp' q' hq' e
noncomputable def upφ (φ : Nat → Addr) (n : Nat) (a : Addr) : Nat → Addr := fun i => if i = n then a else φ i
theorem Ext.up {φ : Nat → Addr} {n : Nat} {a : Addr} : Ext φ n (upφ φ n a) (n + 1) := ⟨Nat.le_succ _, fun i hi => if_neg (Nat.ne_of_lt hi)⟩
theorem all2_ext {φ φ' : Nat → Addr} {n n' : Nat} {P : World} (x : Ext φ n φ' n') : ∀ {l : List (Nat × AO)} {news : List (Addr × Obj)}, (∀ p ∈ l, p.1 < n) → All2 (fun p q => q.1 = φ p.1 ∧ OR φ n P p.2 q.2) l news → All2 (fun p q => q.1 = φ' p.1 ∧ OR φ' n' P p.2 q.2) l news
 := fun h t => by
  induction t with
  | nil => exact .nil
  | cons y t ih => exact .cons ⟨y.1.trans (x.2 _ (h _ (.head _))).symm, y.2.ext x⟩ (ih fun p hp => h p (.tail _ hp))
theorem all2_off {φ : Nat → Addr} {n : Nat} {P : World} {p : Nat × AO} : ∀ {l' : List (Nat × AO)} {r : List (Addr × Obj)}, All2 (fun p q => q.1 = φ p.1 ∧ OR φ n P p.2 q.2) l' r → p ∈ l' → ∃ q ∈ r, q.1 = φ p.1 := fun t => by
  induction t with
  | nil => exact fun h => nomatch h
  | cons a t ih =>
    intro h
    rcases List.mem_cons.mp h with rfl | h
    · exact ⟨_, .head _, a.1⟩
    · obtain ⟨q, hq, e⟩ := ih h; exact ⟨q, .tail _ hq, e⟩
theorem LR0.push {φ : Nat → Addr} {P : World} {ks : List (Addr × Obj)} {H : Hp} {news : List (Addr × Obj)} (L : LR0 φ P ks H news) {l : Addr} {a : AO} {o : Obj} (h : OR (upφ φ H.next l) (H.next + 1) P a o) (hf : ∀ p ∈ news, p.1 ≠ l) : LR0 (upφ φ H.next l) P ks (H.push a) ((l, o) :: news) := by
  obtain ⟨led, rfl, hall⟩ := L.all
  have old : ∀ p ∈ H.cells, upφ φ H.next l p.1 = φ p.1 := fun p hp => if_neg (Nat.ne_of_lt (L.lt p hp))
  have new : upφ φ H.next l H.next = l := if_pos rfl
  have off : ∀ p ∈ H.cells, φ p.1 ≠ l := fun p hp e => by
    refine xe12 (all2_off hall hp) fun q hq e' => ?_
    exact hf q (List.mem_append_left _ hq) (e'.trans e)
  refine ⟨⟨(l, o) :: led, rfl, .cons ⟨new.symm, h⟩ (all2_ext .up L.lt hall)⟩, fun p hp q hq => ?_, fun p hp => ?_, fun p hp q hq e => ?_, ?_⟩
  · rcases List.mem_cons.mp hp with rfl | hp
    · rw [new]; exact hf q (List.mem_append_right _ hq)
    · rw [old p hp]; exact L.off p hp q hq
  · rcases List.mem_cons.mp hp with rfl | hp
    · exact Nat.lt_succ_self _
    · exact Nat.lt_succ_of_lt (L.lt p hp)
  · rcases List.mem_cons.mp hp with rfl | hp <;> rcases List.mem_cons.mp hq with rfl | hq
    · rfl
    · rw [new, old q hq] at e; exact absurd e.symm (off q hq)
    · rw [new, old p hp] at e; exact absurd e (off p hp)
    · rw [old q hq, old p hp] at e; exact L.inj p hp q hq e
  · show (((H.next, a) :: H.cells).map (·.1)).Nodup
    rw [List.map_cons, List.nodup_cons]
    refine ⟨fun hm => ?_, L.nd⟩
    refine xe12 (List.mem_map.mp hm) fun q hq e => ?_
    exact absurd (L.lt q hq) (by rw [e]; exact Nat.lt_irrefl _)

-- code objects: they stay, and bear no number
/-- an object that may be a code object -/
noncomputable def CodeLike (o : Obj) : Prop := ∃ vs q t, o.data = .fields vs ∧ vs[1]? = some (.str q t)
/-- the code objects that an object speaks of -/
noncomputable def CodeRef : AO → Obj → Addr → Prop
  | .tab _ _, o, c => ∃ ps, o = tabObj ps ∧ .ref c ∈ ps.toList
  | .lam _ _ _, o, c => ∃ f, o.data = .func f ∧ f.code = .ref c
  | _, _, _ => False
noncomputable def noCode : AO → Bool
  | .tab _ _ => false
  | .lam _ _ _ => false
  | _ => true
theorem noCode_not {a : AO} (h : noCode a = true) {o : Obj} {c : Addr} (r : CodeRef a o c) : False := by
  induction a <;> first | exact r | cases h
structure LRs (φ : Nat → Addr) (P : World) (ks sat : List (Addr × Obj)) (H : Hp) (news : List (Addr × Obj)) : Prop where
  b : LR0 φ P (sat ++ ks) H news
  like : ∀ q ∈ sat, CodeLike q.2
  ref : ∀ p ∈ H.cells, ∀ o, (φ p.1, o) ∈ news → ∀ c, CodeRef p.2 o c → c ∈ sat.map (·.1)
/-- the ledger bears the abstract heap -/
structure LR (φ : Nat → Addr) (P : World) (ks : List (Addr × Obj)) (H : Hp) (news : List (Addr × Obj)) : Prop where
  ex : ∃ sat, LRs φ P ks sat H news
theorem LR.get {φ : Nat → Addr} {P : World} {ks : List (Addr × Obj)} {H : Hp} {news : List (Addr × Obj)} (L : LR φ P ks H news) {i : Nat} {a : AO} (e : H.get i = some a) : ∃ o, (φ i, o) ∈ news ∧ OR φ H.next P a o := by
  refine xe1 (L.ex) fun sat L => ?_
  exact L.b.get e
theorem LR.idLt {φ : Nat → Addr} {P : World} {ks : List (Addr × Obj)} {H : Hp} {news : List (Addr × Obj)} (L : LR φ P ks H news) {i : Nat} {a : AO} (e : H.get i = some a) : i < H.next := by
  refine xe1 (L.ex) fun sat L => ?_
  exact L.b.idLt e
theorem LR.inj {φ : Nat → Addr} {P : World} {ks : List (Addr × Obj)} {H : Hp} {news : List (Addr × Obj)} (L : LR φ P ks H news) : ∀ p ∈ H.cells, ∀ q ∈ H.cells, φ p.1 = φ q.1 → p.1 = q.1 := by
  refine xe1 (L.ex) fun sat L => ?_
  exact L.b.inj
theorem upd_mem {d : Addr} {o o' : Obj} {l l' : List (Addr × Obj)} (U : Upd d o o' l l') : ∀ q ∈ l', (q = (d, o')) ∨ (q ∈ l ∧ q.1 ≠ d) := by
  induction U with
  | head h => intro q hq; rcases List.mem_cons.mp hq with rfl | hq
              · exact .inl rfl
              · exact .inr ⟨.tail _ hq, h q hq⟩
  | tail h _ ih => intro q hq; rcases List.mem_cons.mp hq with rfl | hq
                   · exact .inr ⟨.head _, h⟩
                   · rcases ih q hq with h | h
                     · exact .inl h
                     · exact .inr ⟨.tail _ h.1, h.2⟩
theorem setL_in {i : Nat} {o : AO} : ∀ {l : List (Nat × AO)} {p : Nat × AO}, (l.map (·.1)).Nodup → p ∈ setL i o l → p = (i, o) ∨ (p ∈ l ∧ p.1 ≠ i)
  | [], _, _, h => nomatch h
  | q :: l, p, hn, h => by
    rw [List.map_cons, List.nodup_cons] at hn
    rw [setL_cons] at h
    split at h
    · rename_i e
      rcases List.mem_cons.mp h with rfl | h
      · exact .inl rfl
      · exact .inr ⟨.tail _ h, fun e' => hn.1 (List.mem_map.mpr ⟨p, h, e'.trans e.symm⟩)⟩
    · rename_i e
      rcases List.mem_cons.mp h with rfl | h
      · exact .inr ⟨.head _, e⟩
      · exact (setL_in hn.2 h).imp id fun h => ⟨.tail _ h.1, h.2⟩
theorem LRs.upd {φ : Nat → Addr} {P : World} {ks sat : List (Addr × Obj)} {H : Hp} {news : List (Addr × Obj)} (L : LRs φ P ks sat H news) {i : Nat} {a : AO} (e : H.get i = some a) :
    ∃ o, OR φ H.next P a o ∧ (φ i, o) ∈ news ∧ ∀ {a' : AO} {o' : Obj}, OR φ H.next P a' o' → (∀ c, CodeRef a' o' c → c ∈ sat.map (·.1)) → ∃ news', Upd (φ i) o o' news news' ∧ LRs φ P ks sat (H.set i a') news' := by
  refine xe13 (L.b.upd e) fun o h1 h2 h3 => ?_
  refine ⟨o, h1, h2, fun {a' o'} h hc => ?_⟩
  refine xe12 (h3 h) fun n' U b => ?_
  refine ⟨n', U, b, L.like, fun p hp ob hob c hr => ?_⟩
  rcases setL_in L.b.nd hp with rfl | ⟨hp, hne⟩
  · rcases upd_mem U _ hob with e' | ⟨_, e'⟩
    · cases e'; exact hc c hr
    · exact absurd rfl e'
  · rcases upd_mem U _ hob with e' | ⟨hob, _⟩
    · exact absurd (L.b.inj p hp _ (lookup_lt e) (congrArg Prod.fst e')) hne
    · exact L.ref p hp ob hob c hr
theorem LR.upd {φ : Nat → Addr} {P : World} {ks : List (Addr × Obj)} {H : Hp} {news : List (Addr × Obj)} (L : LR φ P ks H news) {i : Nat} {a : AO} (e : H.get i = some a) :
    ∃ o, OR φ H.next P a o ∧ (φ i, o) ∈ news ∧ ∀ {a' : AO} {o' : Obj}, OR φ H.next P a' o' → (hk : noCode a' = true := by rfl) → ∃ news', Upd (φ i) o o' news news' ∧ LR φ P ks (H.set i a') news' := by
  refine xe1 (L.ex) fun sat L => ?_
  refine xe13 (L.upd e) fun o h1 h2 h3 => ?_
  refine ⟨o, h1, h2, fun {a' o'} h hk => ?_⟩
  refine xe12 (h3 h fun c r => (noCode_not hk r).elim) fun n' U b => ?_
  exact ⟨n', U, sat, b⟩
theorem LRs.push {φ : Nat → Addr} {P : World} {ks sat : List (Addr × Obj)} {H : Hp} {news : List (Addr × Obj)} (L : LRs φ P ks sat H news) {l : Addr} {a : AO} {o : Obj} (h : OR (upφ φ H.next l) (H.next + 1) P a o) (hf : ∀ p ∈ news, p.1 ≠ l) (hc : ∀ c, CodeRef a o c → c ∈ sat.map (·.1)) : LRs (upφ φ H.next l) P ks sat (H.push a) ((l, o) :: news) := by
  refine ⟨L.b.push h hf, L.like, fun p hp ob hob c hr => ?_⟩
  have new : upφ φ H.next l H.next = l := if_pos rfl
  rcases List.mem_cons.mp hp with rfl | hp
  · rcases List.mem_cons.mp hob with e | hob
    · obtain rfl : ob = o := congrArg Prod.snd e
      exact hc c hr
    · exact absurd new (hf _ hob)
  · have old : upφ φ H.next l p.1 = φ p.1 := if_neg (Nat.ne_of_lt (L.b.lt p hp))
    rw [old] at hob
    rcases List.mem_cons.mp hob with e | hob
    · refine xe12 (L.b.all) fun led e1 hall => ?_
      refine xe12 (all2_off hall hp) fun q hq e2 => ?_
      refine absurd ?_ (hf q (by rw [e1]; exact List.mem_append_left _ hq))
      rw [e2]; exact congrArg Prod.fst e
    · exact L.ref p hp ob hob c hr
theorem LR.push' {φ : Nat → Addr} {P : World} {ks : List (Addr × Obj)} {H : Hp} {news : List (Addr × Obj)} (L : LR φ P ks H news) {l : Addr} {a : AO} {o : Obj} (h : OR (upφ φ H.next l) (H.next + 1) P a o) (hf : ∀ p ∈ news, p.1 ≠ l) (hk : noCode a = true := by rfl) : LR (upφ φ H.next l) P ks (H.push a) ((l, o) :: news) := by
  refine xe1 (L.ex) fun sat L => ?_
  exact ⟨sat, L.push h hf fun c r => (noCode_not hk r).elim⟩
theorem LR.push {φ : Nat → Addr} {P : World} {ks : List (Addr × Obj)} {H : Hp} {news : List (Addr × Obj)} (L : LR φ P ks H news) {l : Addr} {a : AO} {o : Obj} (h : OR φ H.next P a o) (hf : ∀ p ∈ news, p.1 ≠ l) (hk : noCode a = true := by rfl) : LR (upφ φ H.next l) P ks (H.push a) ((l, o) :: news) := L.push' (h.ext .up) hf hk
end Mine
end
-- M2
section
open PySem PySem.W PyProof.Rows PySem.Calls PySem.Spec
set_option Elab.async false
set_option linter.all false
set_option genSizeOf false
set_option genInjectivity false
namespace Mine
set_option maxRecDepth 100000

/-- an end for exceptions that pass out of clauses and loops -/
noncomputable def OwnE (M : Model) (A : Around) (env : Env) (E : Value → Shared → Prop) : Prop := ∀ A' A'' : Around, SameStack A' A → PassesOwnAt M A' A'' env E
theorem OwnE.never {M : Model} {A : Around} {env : Env} : OwnE M A env (fun _ _ => False) := fun _ _ _ => .never
theorem OwnE.leaving {M : Model} {A : Around} {env : Env} {Q₁ : Value → Shared → Prop} {E₁ : Value → Shared → Prop} : OwnE M A env (fun e s' => wpAny M A (PySem.leaving env e) (fun _ s'' => Q₁ e s'') E₁ s') := fun _ _ h => .leavingOf h
theorem OwnE.looking {M : Model} {A : Around} {env : Env} {K : Value → Shared → Prop} {E₁ : Value → Shared → Prop} : OwnE M A env (fun e s' => wpAny M A (noteFrame e env) (fun _ s'' => K e s'') E₁ s') := fun _ _ h => .lookingOf h
theorem OwnE.mark {M : Model} {A : Around} {hd : Option Value} {env : Env} {E : Value → Shared → Prop} (h : OwnE M A env E) : OwnE M (A.mark hd) env E := fun A' A'' q => h A' A'' fun Γ hΓ => by
  refine xe13 (q Γ hΓ) fun Γ1 h1 c1 b1 => ?_
  refine xe13 (SameStack.mark A hd Γ1 h1) fun Γ2 h2 c2 b2 => ?_
  exact ⟨Γ2, h2, c2.trans c1, b2.trans b1⟩
inductive Res (α : Type) where
  | ok (x : α) (H : Hp) | exc (e : Nat) (H : Hp) | stuck | guard (p : Prop) (r : Res α)
noncomputable def Res.bind {α β : Type} (r : Res α) (f : α → Hp → Res β) : Res β := Res.rec (motive := fun _ => Res β) (fun x H => f x H) (fun e H => .exc e H) .stuck (fun p _ ih => .guard p ih) r

structure Sta where
  qual : Str
  scope : Scope
  fn : Option Addr
  cdv : Value
  nh : Bool
  cm : Bool
/-- a call under way -/
structure Act where
  L : Addr
  fra : Addr
  cl : List (Str × Addr)
  A : Around
  outer : List Env
  fs : List (Addr × Obj)
  B : Heap
  S : Shared
  ks : List (Addr × Obj)
noncomputable abbrev Act.env (a : Act) (st : Sta) : Env := { scope := st.scope, locals := a.L, globals := mainGlobals, cells := a.cl, qual := st.qual ++ ".<locals>.", func := st.fn, code := st.cdv, frame := some a.fra, builtins := builtinsNs }
structure Act.Ok (a : Act) (st : Sta) (lv : Nat) (G0 : Heap) : Prop where
  handled : st.nh = true → a.A.handled = none
  frames : st.cm = false → a.A.frames = some (a.env st :: a.outer) ∧ a.fra = a.L
  depth : a.A.depth + 5 * lv < recursionLimit
  units : a.A.units + 50 * lv < cLine
  outer : ∀ e ∈ a.outer, e.scope.kind ≠ .module ∧ ∃ f o, e.frame = some f ∧ (f, o) ∈ a.fs
  kind : st.scope.kind = .function
  fs : ∀ q ∈ a.fs, a.B.get? q.1 = some q.2 ∧ G0.get? q.1 = none ∧ ∃ es n, q.2.data = .dict es n
  stays : G0.StaysIn a.B

structure Rel (P : World) (a : Act) (φ : Nat → Addr) (F : Frm) (H : Hp) (s : Shared) (g : Heap) (m : Str → Option Value) (news : List (Addr × Obj)) : Prop where
  fr : Fr g a.L s.heap m
  nw : News g a.L s.heap news
  lr : LR φ P a.ks H news
  loc : ∀ c x v, KN c x → F.loc.lookup c = some v → ∃ w, m x = some w ∧ VR φ H.next v w
  cl : All2 (CR φ H.next) F.cl a.cl
  turn : KtsTurn (a.fs.map (·.1)) a.B g
  same : s.gens = a.S.gens ∧ s.drawn = a.S.drawn ∧ s.os = a.S.os
noncomputable def RelX (P : World) (a : Act) (φ : Nat → Addr) (F : Frm) (H : Hp) (s : Shared) : Prop := ∃ g m news, Rel P a φ F H s g m news

noncomputable def PO (P : World) (a : Act) (φ : Nat → Addr) (n : Nat) (F : Frm) {α : Type} (r : Res α) (K : α → (Nat → Addr) → Hp → Shared → Prop) (E : Value → Shared → Prop) : Prop := Res.rec (motive := fun _ => Prop) (fun x H => ∀ φ' s', RelX P a φ' F H s' → Ext φ n φ' H.next → K x φ' H s')
  (fun e H => ∀ φ' s', RelX P a φ' F H s' → Ext φ n φ' H.next → e < H.next → E (.ref (φ' e)) s') False (fun p _ ih => p ∧ ih) r
theorem PO.mono {P : World} {a : Act} {φ : Nat → Addr} {n : Nat} {F : Frm} {α : Type} {r : Res α} {K K' : α → (Nat → Addr) → Hp → Shared → Prop} {E : Value → Shared → Prop}
    (h : PO P a φ n F r K E) (k : ∀ x φ' H s', RelX P a φ' F H s' → K x φ' H s' → K' x φ' H s') : PO P a φ n F r K' E := by
  induction r with
  | ok x H => exact fun φ' s' R X => k _ _ _ _ R (h φ' s' R X)
  | exc e H => exact h
  | stuck => exact h
  | guard p r ih => exact ⟨h.1, ih h.2⟩
theorem PO.weak {P : World} {a : Act} {φ φ' : Nat → Addr} {n n' : Nat} {F : Frm} {α : Type} {r : Res α} {K : α → (Nat → Addr) → Hp → Shared → Prop} {E : Value → Shared → Prop}
    (h : PO P a φ n F r K E) (X : Ext φ n φ' n') : PO P a φ' n' F r K E := by
  induction r with
  | ok x H => exact fun φ' s' R Y => h φ' s' R (X.trans Y)
  | exc e H => exact fun φ' s' R Y => h φ' s' R (X.trans Y)
  | stuck => exact h
  | guard p r ih => exact ⟨h.1, ih h.2⟩
theorem PO.bind {P : World} {a : Act} {φ : Nat → Addr} {n : Nat} {F : Frm} {α β : Type} {r : Res α} {k : α → Hp → Res β} {K : β → (Nat → Addr) → Hp → Shared → Prop} {E : Value → Shared → Prop}
    (h : PO P a φ n F (r.bind k) K E) : PO P a φ n F r (fun x φ' H s' => PO P a φ' H.next F (k x H) K E) E := by
  induction r with
  | ok x H => exact fun φ' s' R X => PO.weak h X
  | exc e H => exact h
  | stuck => exact h
  | guard p r ih => exact ⟨h.1, ih h.2⟩

theorem PO.bind2 {P : World} {a : Act} {φ : Nat → Addr} {n : Nat} {F : Frm} {α β : Type} {r : Res α} {k : α → Hp → Res β} {K : β → (Nat → Addr) → Hp → Shared → Prop} {E : Value → Shared → Prop} {K' : α → (Nat → Addr) → Hp → Shared → Prop}
    (h : PO P a φ n F (r.bind k) K E) (kk : ∀ x φ' H s', RelX P a φ' F H s' → Ext φ n φ' H.next → PO P a φ' H.next F (k x H) K E → K' x φ' H s') : PO P a φ n F r K' E := by
  induction r with
  | ok x H => exact fun φ' s' R X => kk _ _ _ _ R X (PO.weak h X)
  | exc e H => exact h
  | stuck => exact h
  | guard p r ih => exact ⟨h.1, ih h.2⟩

section
variable {w : World} {p : Program} {loose : List Str} {mean : ExcName → Option Value} {mg mb : Str → Option Value} {G0 : Heap}

/-- an expression is what its reading says -/
noncomputable def SE (w : World) (G0 : Heap) (lv : Nat) (st : Sta) (e : Expr) (D : Frm → Hp → Res AV) : Prop :=
  ∀ (a : Act) (φ : Nat → Addr) (F : Frm) (H : Hp) (s : Shared) (Qc : Value → Shared → Prop) (Ec : Value → Shared → Prop), a.Ok st lv G0 → RelX w a φ F H s →
    PO w a φ H.next F (D F H) (fun x φ' H' s' => ∀ v, VR φ' H'.next x v → Qc v s') Ec → wpAny (model PR w) a.A (eval e (a.env st)) Qc Ec s
/-- an expression as a test -/
noncomputable def SB (w : World) (G0 : Heap) (lv : Nat) (st : Sta) (e : Expr) (D : Frm → Hp → Res Bool) : Prop :=
  ∀ (a : Act) (φ : Nat → Addr) (F : Frm) (H : Hp) (s : Shared) (Qc : Bool → Shared → Prop) (Ec : Value → Shared → Prop), a.Ok st lv G0 → RelX w a φ F H s →
    PO w a φ H.next F (D F H) (fun x _ _ s' => Qc x s') Ec → wpAny (model PR w) a.A (PySem.isTrue e (a.env st) (eval e (a.env st))) Qc Ec s
/-- operations upon values -/
noncomputable def SO1 (w : World) (G0 : Heap) (lv : Nat) (st : Sta) (t : Value → Sem Value) (f : AV → Hp → Res AV) : Prop :=
  ∀ (a : Act) (φ : Nat → Addr) (F : Frm) (H : Hp) (s : Shared) (Qc : Value → Shared → Prop) (Ec : Value → Shared → Prop) (x : AV) (v : Value), a.Ok st lv G0 → RelX w a φ F H s → VR φ H.next x v →
    PO w a φ H.next F (f x H) (fun x φ' H' s' => ∀ v, VR φ' H'.next x v → Qc v s') Ec → wpAny (model PR w) a.A (t v) Qc Ec s
noncomputable def SO2 (w : World) (G0 : Heap) (lv : Nat) (st : Sta) (t : Value → Value → Sem Value) (f : AV → AV → Hp → Res AV) : Prop :=
  ∀ (a : Act) (φ : Nat → Addr) (F : Frm) (H : Hp) (s : Shared) (Qc : Value → Shared → Prop) (Ec : Value → Shared → Prop) (x y : AV) (v u : Value), a.Ok st lv G0 → RelX w a φ F H s → VR φ H.next x v → VR φ H.next y u →
    PO w a φ H.next F (f x y H) (fun x φ' H' s' => ∀ v, VR φ' H'.next x v → Qc v s') Ec → wpAny (model PR w) a.A (t v u) Qc Ec s

/-- the state with tokens drawn -/
theorem RelX.toks {P : World} {a : Act} {φ : Nat → Addr} {F : Frm} {H : Hp} {s : Shared} (h : RelX P a φ F H s) {k : Nat} : RelX P a φ F H { s with toks := k } := by
  obtain ⟨g, m, n, r⟩ := h; exact ⟨g, m, n, ⟨r.fr, r.nw, r.lr, r.loc, r.cl, r.turn, r.same⟩⟩
theorem Act.Ok.base {a : Act} {st : Sta} {lv : Nat} (o : a.Ok st lv G0) {g : Heap} (t : KtsTurn (a.fs.map (·.1)) a.B g) : G0.StaysIn g := fun b ob e => by
  refine t.other b ob (o.stays b ob e) fun hm => ?_
  obtain ⟨q, hq, rfl⟩ := List.mem_map.mp hm
  have := (o.fs q hq).2.1
  rw [e] at this; exact no_some8 this

-- what an end without a change wants
theorem PO.here {P : World} {a : Act} {φ : Nat → Addr} {F : Frm} {H : Hp} {s : Shared} {α : Type} {x : α} {K : α → (Nat → Addr) → Hp → Shared → Prop} {E : Value → Shared → Prop} (h : PO P a φ H.next F (.ok x H) K E) (R : RelX P a φ F H s) : K x φ H s := h φ s R .refl

-- constants
theorem S_int {lv : Nat} {st : Sta} {i : Int} {k : Nat} {pos : Pos} : SE w G0 lv st (.Constant (.int i) k pos) (fun _ H => .ok (.int i) H) := fun a φ F H s Qc Ec ok R h =>
  wpAny_Constant_int (PO.here h (RelX.toks R) _ ⟨_, rfl⟩)
theorem S_bool {lv : Nat} {st : Sta} {b : Bool} {k : Nat} {pos : Pos} : SE w G0 lv st (.Constant (.bool b) k pos) (fun _ H => .ok (.bool b) H) := fun a φ F H s Qc Ec ok R h =>
  wpAny_Constant_bool (PO.here h R _ rfl)
theorem S_none {lv : Nat} {st : Sta} {k : Nat} {pos : Pos} : SE w G0 lv st (.Constant .none k pos) (fun _ H => .ok .none H) := fun a φ F H s Qc Ec ok R h =>
  wpAny_Constant_none (PO.here h R _ rfl)
theorem S_str {lv : Nat} {st : Sta} {c : Nat} {x : Str} {k : Nat} {pos : Pos} (hc : KN c x) : SE w G0 lv st (.Constant (.str x) k pos) (fun _ H => .ok (.str c) H) := fun a φ F H s Qc Ec ok R h =>
  wpAny_Constant_str (PO.here h (RelX.toks R) _ ⟨_, _, rfl, hc⟩)

noncomputable def getV (x : Nat) (F : Frm) (H : Hp) : Res AV := match F.loc.lookup x with
  | some v => .ok v H
  | none => .stuck
theorem S_local {lv : Nat} {st : Sta} {c : Nat} {x : Str} {pos : Pos} (hc : KN c x) (hx : st.scope.names.lookup x = some .local) (hd : (x == ("__debug__" : Str)) = false) : SE w G0 lv st (.Name x pos) (getV c) := fun a φ F H s Qc Ec ok R h => by
  unfold getV at h
  induction e : F.loc.lookup c with
  | none => rw [e] at h; exact h.elim
  | some v =>
    rw [e] at h
    have R0 := R
    refine xe3 (R) fun g m n r => ?_
    refine xe12 (r.loc c x v hc e) fun u hu hr => ?_
    exact wpAny_Name (wpAny_loadName_local ok.kind hx r.fr.ns hu (PO.here h R0 u hr)) hd
theorem S_glob (GD : Gd w p loose mean mg mb G0) {lv : Nat} {st : Sta} {x : Str} {pos : Pos} {v : Value} {c : AV} (hv : ∀ φ n, VR φ n c v) (e : nsIn (hd.heap_39 w.params) mainGlobals x = some (some v)) (hx : st.scope.names.lookup x = some .globalImplicit) (hd : (x == ("__debug__" : Str)) = false) :
    SE w G0 lv st (.Name x pos) (fun _ H => .ok c H) := fun a φ F H s Qc Ec ok R h => by
  have R0 := R
  refine xe3 (R) fun g m n r => ?_
  have sg := ok.base r.turn
  exact Name_function_global ok.kind hx (loadGlobal_global (env := a.env st) ((topRead_of (GD.T.keeps sg)).g.keeps r.fr.keep) (mg_of (GD.X.keeps sg) (topRead_of (GD.T.keeps sg)).g e) (PO.here h R0 v (hv _ _))) hd
theorem S_bltn (GD : Gd w p loose mean mg mb G0) {lv : Nat} {st : Sta} {x : Str} {pos : Pos} {v : Value} {c : AV} (hv : ∀ φ n, VR φ n c v) (e : nsIn (hd.heap_39 w.params) mainGlobals x = some none) (eb : bootBuiltins x = some v) (hn : x ≠ "__name__") (hx : st.scope.names.lookup x = some .globalImplicit) (hd : (x == ("__debug__" : Str)) = false) :
    SE w G0 lv st (.Name x pos) (fun _ H => .ok c H) := fun a φ F H s Qc Ec ok R h => by
  have R0 := R
  refine xe3 (R) fun g m n r => ?_
  have sg := ok.base r.turn
  have T := topRead_of (GD.T.keeps sg)
  exact Name_function_global ok.kind hx (loadGlobal_builtin (env := a.env st) (T.g.keeps r.fr.keep) (mg_none_of (GD.X.keeps sg) T.g e) (T.b.keeps r.fr.keep) ((T.builtins x hn).trans eb) (PO.here h R0 v (hv _ _))) hd
noncomputable def getC (x : Nat) (F : Frm) (H : Hp) : Res AV := match F.cl.lookup x with
  | some i => (match H.cell i with
    | some (some v) => .ok v H
    | _ => .stuck)
  | none => .stuck
theorem all2_cl {φ : Nat → Addr} {n : Nat} {c : Nat} {x : Str} (hc : KN c x) : ∀ {l : List (Nat × Nat)} {r : List (Str × Addr)}, All2 (CR φ n) l r → ∀ {i : Nat}, l.lookup c = some i → r.lookup x = some (φ i) ∧ i < n
 := fun t => by
  induction t with
  | nil => intro i e; exact no_some9 e
  | @cons p q l r hh t ih =>
    intro i e
    obtain ⟨y, j⟩ := p
    obtain ⟨z, b⟩ := q
    refine xa3 (hh) fun h1 h2 h3 => ?_
    dsimp only at h1 h2 h3
    rw [List.lookup_cons] at e ⊢
    by_cases h : c = y
    · rw [(hc.inj h1).mpr h, beq_self_eq_true]
      subst h
      rw [beq_self_eq_true] at e
      obtain rfl := Option.some.inj e
      exact ⟨congrArg some h2, h3⟩
    · rw [show (c == y) = false from by simpa using h] at e
      rw [show (x == z) = false from by simpa using fun q => h ((hc.inj h1).mp q)]
      exact ih e
theorem S_cell {lv : Nat} {st : Sta} {c : Nat} {x : Str} {pos : Pos} (hc : KN c x) (hx : (st.scope.names.lookup x = some .cell ∨ st.scope.names.lookup x = some .free)) (hd : (x == ("__debug__" : Str)) = false) (hn : (x == ("__classdict__" : Str)) = false) : SE w G0 lv st (.Name x pos) (getC c) := fun a φ F H s Qc Ec ok R h => by
  unfold getC at h
  induction e : F.cl.lookup c with
  | none => rw [e] at h; exact h.elim
  | some i =>
    rw [e] at h
    dsimp only at h
    induction e2 : H.cell i with
    | none => rw [e2] at h; exact h.elim
    | some o =>
      rw [e2] at h
      induction o with
      | none => exact h.elim
      | some v =>
        have R0 := R
        refine xe3 (R) fun g m n r => ?_
        obtain ⟨ob, hm, u, hu, hv⟩ := r.lr.get (Hp.cell_eq e2)
        induction u with
        | none => exact no_some8 hv
        | some u =>
          have hl := (all2_cl hc r.cl e).1
          rcases hx with hx | hx
          · exact wpAny_Name (wpAny_loadName_cell ok.kind hx hl ⟨ob, r.nw.get hm, hu⟩ (PO.here h R0 u hv)) hd
          · exact wpAny_Name (wpAny_loadName_free ok.kind hx hl ⟨ob, r.nw.get hm, hu⟩ (PO.here h R0 u hv) hn) hd

-- two values, one operation
theorem S_bin {lv : Nat} {st : Sta} {l r : Expr} {op : Operator} {pos : Pos} {D1 D2 : Frm → Hp → Res AV} {f : AV → AV → Hp → Res AV} (ho : SO2 w G0 lv st (binaryOp op) f) (h1 : SE w G0 lv st l D1) (h2 : SE w G0 lv st r D2) :
    SE w G0 lv st (.BinOp l op r pos) (fun F H => (D1 F H).bind fun x H1 => (D2 F H1).bind fun y H2 => f x y H2) := fun a φ F H s Qc Ec ok R h =>
  wpAny_BinOp (h1 a φ F H s _ Ec ok R (PO.bind h |>.mono fun x φ1 H1 s1 R1 h' v hv =>
    h2 a φ1 F H1 s1 _ Ec ok R1 (PO.bind2 h' fun y φ2 H2 s2 R2 X2 h'' u hu => ho a φ2 F H2 s2 Qc Ec x y v u ok R2 (hv.ext X2) hu h'')))
end
end Mine
end
-- M3
section
open PySem PySem.W PyProof.Rows PySem.Calls PySem.Spec
set_option Elab.async false
set_option linter.all false
namespace Mine
set_option maxRecDepth 100000
section
variable {w : World} {p : Program} {loose : List Str} {mean : ExcName → Option Value} {mg mb : Str → Option Value} {G0 : Heap} {lv : Nat} {st : Sta}

noncomputable def i2 (f : Int → Int → Option AV) : AV → AV → Hp → Res AV
  | .int a, .int b, H => match f a b with
    | some v => .ok v H
    | none => .stuck
  | _, _, _ => .stuck
theorem SO2_int {t : Value → Value → Sem Value} {f : Int → Int → Option AV}
    (h : ∀ (A : Around) (E : Value → Shared → Prop) (s : Shared) (a b : Int) (ta tb : Tok) (v : AV) (Q : Value → Shared → Prop), f a b = some v → (∀ u k, (∀ φ n, VR φ n v u) → Q u { s with toks := k }) → wpAny (model PR w) A (t (.int a ta) (.int b tb)) Q E s) :
    SO2 w G0 lv st t (i2 f) := fun a φ F H s Qc Ec x y v u ok R hx hy h' => by
  unfold i2 at h'
  induction x <;> try exact h'.elim
  induction y <;> try exact h'.elim
  obtain ⟨ta, rfl⟩ := hx
  obtain ⟨tb, rfl⟩ := hy
  dsimp only at h'
  rename_i m n
  induction e : f m n with
  | none => rw [e] at h'; exact h'.elim
  | some r =>
    rw [e] at h'
    exact h a.A Ec s m n ta tb r Qc e fun u k hu => PO.here h' (RelX.toks R) u (hu _ _)
noncomputable def fAdd (a b : Int) : Option AV := some (.int (a + b))
noncomputable def fSub (a b : Int) : Option AV := some (.int (a - b))
noncomputable def fMul (a b : Int) : Option AV := if a.natAbs < 2 ^ 64 then some (.int (a * b)) else none
noncomputable def fDiv (a b : Int) : Option AV := if 0 < b ∧ b < 2 ^ 64 then some (.int (a / b)) else none
noncomputable def fMod (a b : Int) : Option AV := if 0 < b then some (.int (a % b)) else none
noncomputable def fPow (a b : Int) : Option AV := if 0 ≤ b ∧ b ≤ 100 ∧ a.natAbs < 2 ^ 64 then some (.int (a ^ b.toNat)) else none
noncomputable def fShl (a b : Int) : Option AV := if 0 ≤ b ∧ b ≤ 1000 ∧ a.natAbs < 2 ^ 64 then some (.int (a * 2 ^ b.toNat)) else none
noncomputable def fShr (a b : Int) : Option AV := if 0 ≤ b then some (.int (a / 2 ^ b.toNat)) else none
noncomputable def fAnd (a b : Int) : Option AV := some (.int (Builtin.bitAnd a b))
noncomputable def fOr (a b : Int) : Option AV := some (.int (Builtin.bitOr a b))
noncomputable def fLt (a b : Int) : Option AV := some (.bool (decide (a < b)))
noncomputable def fLe (a b : Int) : Option AV := some (.bool (decide (a ≤ b)))
noncomputable def fGt (a b : Int) : Option AV := some (.bool (decide (b < a)))
noncomputable def fGe (a b : Int) : Option AV := some (.bool (decide (b ≤ a)))
theorem vr_int {i : Int} {t : Tok} : ∀ (φ : Nat → Addr) (n : Nat), VR φ n (.int i) (.int i t) := fun _ _ => ⟨_, rfl⟩
theorem vr_bool {b : Bool} : ∀ (φ : Nat → Addr) (n : Nat), VR φ n (.bool b) (.bool b) := fun _ _ => rfl
theorem bits64 {a : Int} (h : a.natAbs < 2 ^ 64) : Builtin.Int.intBits a ≤ 64 := intBits_le_64 (by omega) (by omega)
theorem O_add : SO2 w G0 lv st (binaryOp .Add) (i2 fAdd) := SO2_int fun A E s a b ta tb v Q e h => by
  obtain rfl := Option.some.inj e; exact add_int (h _ _ vr_int)
theorem O_sub : SO2 w G0 lv st (binaryOp .Sub) (i2 fSub) := SO2_int fun A E s a b ta tb v Q e h => by
  obtain rfl := Option.some.inj e; exact sub_int (h _ _ vr_int)
theorem O_mul : SO2 w G0 lv st (binaryOp .Mult) (i2 fMul) := SO2_int fun A E s a b ta tb v Q e h => by
  unfold fMul at e; split at e
  · obtain rfl := Option.some.inj e; rename_i q; exact mul_int (h _ _ vr_int) (IntMulOk.of_left (bits64 q))
  · exact no_some9 e
theorem O_div : SO2 w G0 lv st (binaryOp .FloorDiv) (i2 fDiv) := SO2_int fun A E s a b ta tb v Q e h => by
  unfold fDiv at e; split at e
  · obtain rfl := Option.some.inj e; rename_i q
    refine floordiv_int (by omega) ?_ (.inl (PyProof.noPylong_of_log2 ?_))
    · rw [Int.fdiv_eq_ediv_of_nonneg _ (by omega)]; exact h _ _ vr_int
    · have : b.natAbs < 2 ^ 64 := by omega
      have := (Nat.log2_lt (by omega)).mpr this
      omega
  · exact no_some9 e
theorem O_mod : SO2 w G0 lv st (binaryOp .Mod) (i2 fMod) := SO2_int fun A E s a b ta tb v Q e h => by
  unfold fMod at e; split at e
  · obtain rfl := Option.some.inj e; rename_i q
    refine mod_int' (by omega) ?_
    rw [Int.fmod_eq_emod_of_nonneg _ (by omega)]; exact h _ _ vr_int
  · exact no_some9 e
theorem O_pow : SO2 w G0 lv st (binaryOp .Pow) (i2 fPow) := SO2_int fun A E s a b ta tb v Q e h => by
  unfold fPow at e; split at e
  · obtain rfl := Option.some.inj e; rename_i q
    refine pow_int q.1 ?_ (h _ _ vr_int)
    have h1 := bits64 q.2.2
    have h2 : (Builtin.Int.intBits a : Int) * b ≤ 64 * 100 := Int.mul_le_mul (by omega) q.2.1 q.1 (by omega)
    omega
  · exact no_some9 e
theorem O_shl : SO2 w G0 lv st (binaryOp .LShift) (i2 fShl) := SO2_int fun A E s a b ta tb v Q e h => by
  unfold fShl at e; split at e
  · obtain rfl := Option.some.inj e; rename_i q
    exact lshift_int_small q.1 (by omega) q.2.2 (h _ _ vr_int)
  · exact no_some9 e
theorem O_shr : SO2 w G0 lv st (binaryOp .RShift) (i2 fShr) := SO2_int fun A E s a b ta tb v Q e h => by
  unfold fShr at e; split at e
  · obtain rfl := Option.some.inj e; rename_i q
    refine rshift_int q ?_
    rw [Int.fdiv_eq_ediv_of_nonneg _ (Int.pow_nonneg (by decide))]; exact h _ _ vr_int
  · exact no_some9 e
theorem O_and : SO2 w G0 lv st (binaryOp .BitAnd) (i2 fAnd) := SO2_int fun A E s a b ta tb v Q e h => by
  obtain rfl := Option.some.inj e; exact and_int (h _ _ vr_int)
theorem O_or : SO2 w G0 lv st (binaryOp .BitOr) (i2 fOr) := SO2_int fun A E s a b ta tb v Q e h => by
  obtain rfl := Option.some.inj e; exact or_int (h _ _ vr_int)
theorem C_lt : SO2 w G0 lv st (compareOp .Lt) (i2 fLt) := SO2_int fun A E s a b ta tb v Q e h => by
  obtain rfl := Option.some.inj e; exact lt_int (h _ s.toks vr_bool)
theorem C_le : SO2 w G0 lv st (compareOp .LtE) (i2 fLe) := SO2_int fun A E s a b ta tb v Q e h => by
  obtain rfl := Option.some.inj e; exact le_int (h _ s.toks vr_bool)
theorem C_gt : SO2 w G0 lv st (compareOp .Gt) (i2 fGt) := SO2_int fun A E s a b ta tb v Q e h => by
  obtain rfl := Option.some.inj e; exact gt_int (h _ s.toks vr_bool)
theorem C_ge : SO2 w G0 lv st (compareOp .GtE) (i2 fGe) := SO2_int fun A E s a b ta tb v Q e h => by
  obtain rfl := Option.some.inj e; exact ge_int (h _ s.toks vr_bool)
-- unary
noncomputable def i1 (f : Int → AV) : AV → Hp → Res AV
  | .int a, H => .ok (f a) H
  | _, _ => .stuck
theorem O_neg : SO1 w G0 lv st (unaryOp .USub) (i1 fun a => .int (-a)) := fun a φ F H s Qc Ec x v ok R hx h' => by
  unfold i1 at h'
  induction x <;> try exact h'.elim
  obtain ⟨ta, rfl⟩ := hx
  exact neg_int (PO.here h' (RelX.toks R) _ (vr_int _ _))
theorem O_inv : SO1 w G0 lv st (unaryOp .Invert) (i1 fun a => .int (Builtin.bitNot a)) := fun a φ F H s Qc Ec x v ok R hx h' => by
  unfold i1 at h'
  induction x <;> try exact h'.elim
  obtain ⟨ta, rfl⟩ := hx
  exact invert_int (PO.here h' (RelX.toks R) _ (vr_int _ _))
theorem S_un {x : Expr} {op : UnaryOp} {pos : Pos} {D : Frm → Hp → Res AV} {f : AV → Hp → Res AV} (ho : SO1 w G0 lv st (unaryOp op) f) (h1 : SE w G0 lv st x D) :
    SE w G0 lv st (.UnaryOp op x pos) (fun F H => (D F H).bind fun x H1 => f x H1) := fun a φ F H s Qc Ec ok R h =>
  wpAny_UnaryOp (h1 a φ F H s _ Ec ok R (PO.bind2 h fun x φ1 H1 s1 R1 X1 h' v hv => ho a φ1 F H1 s1 Qc Ec x v ok R1 hv h'))
theorem S_cmp {l r : Expr} {op : CmpOp} {pos : Pos} {D1 D2 : Frm → Hp → Res AV} {f : AV → AV → Hp → Res AV} (ho : SO2 w G0 lv st (compareOp op) f) (h1 : SE w G0 lv st l D1) (h2 : SE w G0 lv st r D2) (hm : behindInMarks op r = false := by rfl) :
    SE w G0 lv st (.Compare l [op] [r] pos) (fun F H => (D1 F H).bind fun x H1 => (D2 F H1).bind fun y H2 => f x y H2) := fun a φ F H s Qc Ec ok R h =>
  wpAny_Compare1 (h1 a φ F H s _ Ec ok R (PO.bind h |>.mono fun x φ1 H1 s1 R1 h' v hv =>
    h2 a φ1 F H1 s1 _ Ec ok R1 (PO.bind2 h' fun y φ2 H2 s2 R2 X2 h'' u hu => ho a φ2 F H2 s2 Qc Ec x y v u ok R2 (hv.ext X2) hu h''))) hm
end
end Mine
end
-- M4
section
open PySem PySem.W PyProof.Rows PySem.Calls PySem.Spec
set_option Elab.async false
set_option linter.all false
namespace Mine
set_option maxRecDepth 100000
section
variable {w : World} {p : Program} {loose : List Str} {mean : ExcName → Option Value} {mg mb : Str → Option Value} {G0 : Heap} {lv : Nat} {st : Sta}

/-- the truth of a value that is no object -/
noncomputable def tv : AV → Hp → Res Bool
  | .int a, H => .ok (!decide (a = 0)) H
  | .bool b, H => .ok b H
  | .none, H => .ok false H
  | _, _ => .stuck
theorem O_truth : ∀ (a : Act) (φ : Nat → Addr) (F : Frm) (H : Hp) (s : Shared) (Qc : Bool → Shared → Prop) (Ec : Value → Shared → Prop) (x : AV) (v : Value), RelX w a φ F H s → VR φ H.next x v →
    PO w a φ H.next F (tv x H) (fun x φ' H' s' => Qc x s') Ec → wpAny (model PR w) a.A (truthy v) Qc Ec s := fun a φ F H s Qc Ec x v R hx h => by
  unfold tv at h
  induction x <;> try exact h.elim
  · subst hx; exact truthy_none (PO.here h R)
  · subst hx; exact wpAny_truthy_bool (PO.here h R)
  · obtain ⟨t, rfl⟩ := hx; refine truthy_int ?_; rename_i b; rw [show (b != 0) = !decide (b = 0) from rfl]; exact PO.here h R
theorem B_plain {e : Expr} {D : Frm → Hp → Res AV} (h1 : SE w G0 lv st e D) (hp : ∀ (env : Env) (whole : Sem Value), PySem.isTrue e env whole = (do let v ← whole; standAt e.pos; holding [v] (truthy v)) := by intros; rfl) :
    SB w G0 lv st e (fun F H => (D F H).bind tv) := fun a φ F H s Qc Ec ok R h =>
  isTrue_plain (h1 a φ F H s _ Ec ok R (PO.bind2 h fun x φ1 H1 s1 R1 X1 h' v hv => O_truth a φ1 F H1 s1 Qc Ec x v R1 hv h')) (hp _ _)
theorem B_cmp {l r : Expr} {op : CmpOp} {pos : Pos} {D1 D2 : Frm → Hp → Res AV} {f : AV → AV → Hp → Res AV} (ho : SO2 w G0 lv st (compareOp op) f) (h1 : SE w G0 lv st l D1) (h2 : SE w G0 lv st r D2) (hm : behindInMarks op r = false := by rfl) :
    SB w G0 lv st (.Compare l [op] [r] pos) (fun F H => (D1 F H).bind fun x H1 => (D2 F H1).bind fun y H2 => (f x y H2).bind tv) := fun a φ F H s Qc Ec ok R h =>
  wpAny_isTrue_Compare1 (h1 a φ F H s _ Ec ok R (PO.bind h |>.mono fun x φ1 H1 s1 R1 h' v hv =>
    h2 a φ1 F H1 s1 _ Ec ok R1 (PO.bind2 h' fun y φ2 H2 s2 R2 X2 h'' u hu => ho a φ2 F H2 s2 _ Ec x y v u ok R2 (hv.ext X2) hu
      (PO.bind2 h'' fun z φ3 H3 s3 R3 X3 h3 t ht => O_truth a φ3 F H3 s3 Qc Ec z t R3 ht h3)))) hm
/-- the rest of a chain -/
noncomputable def SC (w : World) (G0 : Heap) (lv : Nat) (st : Sta) (ops : List CmpOp) (rs : List Expr) (D : AV → Frm → Hp → Res Bool) : Prop :=
  ∀ (a : Act) (φ : Nat → Addr) (F : Frm) (H : Hp) (s : Shared) (Qc : Bool → Shared → Prop) (Ec : Value → Shared → Prop) (pos : Pos) (x : AV) (v : Value), a.Ok st lv G0 → RelX w a φ F H s → VR φ H.next x v →
    PO w a φ H.next F (D x F H) (fun x _ _ s' => Qc x s') Ec → wpAny (model PR w) a.A (testChain pos v ops (evalEach rs (a.env st))) Qc Ec s
theorem C_last {op : CmpOp} {r : Expr} {D : Frm → Hp → Res AV} {f : AV → AV → Hp → Res AV} (ho : SO2 w G0 lv st (compareOp op) f) (h1 : SE w G0 lv st r D) :
    SC w G0 lv st [op] [r] (fun x F H => (D F H).bind fun y H2 => (f x y H2).bind tv) := fun a φ F H s Qc Ec pos x v ok R hv h =>
  test_last (h1 a φ F H s _ Ec ok R (PO.bind2 h fun y φ2 H2 s2 R2 X2 h'' u hu => ho a φ2 F H2 s2 _ Ec x y v u ok R2 (hv.ext X2) hu
      (PO.bind2 h'' fun z φ3 H3 s3 R3 X3 h3 t ht => O_truth a φ3 F H3 s3 Qc Ec z t R3 ht h3)))
theorem C_link {op op' : CmpOp} {ops : List CmpOp} {r r' : Expr} {rs : List Expr} {D : Frm → Hp → Res AV} {f : AV → AV → Hp → Res AV} {D' : AV → Frm → Hp → Res Bool} (ho : SO2 w G0 lv st (compareOp op) f) (h1 : SE w G0 lv st r D) (h2 : SC w G0 lv st (op' :: ops) (r' :: rs) D') :
    SC w G0 lv st (op :: op' :: ops) (r :: r' :: rs) (fun x F H => (D F H).bind fun y H2 => (f x y H2).bind fun z H3 => (tv z H3).bind fun b H4 => if b then D' y F H4 else .ok false H4) := fun a φ F H s Qc Ec pos x v ok R hv h =>
  test_link (h1 a φ F H s _ Ec ok R (PO.bind2 h fun y φ2 H2 s2 R2 X2 h'' u hu => ho a φ2 F H2 s2 _ Ec x y v u ok R2 (hv.ext X2) hu
      (PO.bind2 h'' fun z φ3 H3 s3 R3 X3 h3 t ht => O_truth a φ3 F H3 s3 _ Ec z t R3 ht (PO.bind2 h3 fun b φ4 H4 s4 R4 X4 h4 => by
        induction b with
        | true => rw [if_pos rfl] at h4 ⊢; exact h2 a φ4 F H4 s4 Qc Ec pos y u ok R4 ((hu.ext X3).ext X4) h4
        | false => rw [if_neg (by decide)] at h4 ⊢; exact PO.here h4 R4))))
theorem B_chain {l : Expr} {op₁ op₂ : CmpOp} {ops : List CmpOp} {r₁ r₂ : Expr} {rs : List Expr} {pos : Pos} {D1 : Frm → Hp → Res AV} {D2 : AV → Frm → Hp → Res Bool} (h1 : SE w G0 lv st l D1) (h2 : SC w G0 lv st (op₁ :: op₂ :: ops) (r₁ :: r₂ :: rs) D2) (hm : lastMarks (op₁ :: op₂ :: ops) (r₁ :: r₂ :: rs) = false := by rfl) :
    SB w G0 lv st (.Compare l (op₁ :: op₂ :: ops) (r₁ :: r₂ :: rs) pos) (fun F H => (D1 F H).bind fun x H1 => D2 x F H1) := fun a φ F H s Qc Ec ok R h =>
  isTrue_chain (h1 a φ F H s _ Ec ok R (PO.bind2 h fun x φ1 H1 s1 R1 X1 h' v hv => h2 a φ1 F H1 s1 Qc Ec _ x v ok R1 hv h')) hm
theorem B_not {x : Expr} {pos : Pos} {D : Frm → Hp → Res Bool} (h1 : SB w G0 lv st x D) : SB w G0 lv st (.UnaryOp .Not x pos) (fun F H => (D F H).bind fun b H1 => .ok (!b) H1) := fun a φ F H s Qc Ec ok R h =>
  isTrue_not (h1 a φ F H s _ Ec ok R (PO.bind2 h fun b φ1 H1 s1 R1 X1 h' => PO.here h' R1))
noncomputable def SBs (w : World) (G0 : Heap) (lv : Nat) (st : Sta) (op : BoolOp) (es : List Expr) (D : Frm → Hp → Res Bool) : Prop :=
  ∀ (a : Act) (φ : Nat → Addr) (F : Frm) (H : Hp) (s : Shared) (Qc : Bool → Shared → Prop) (Ec : Value → Shared → Prop) (pos : Pos) (whole : Sem Value), a.Ok st lv G0 → RelX w a φ F H s →
    PO w a φ H.next F (D F H) (fun x _ _ s' => Qc x s') Ec → wpAny (model PR w) a.A (PySem.isTrue (.BoolOp op es pos) (a.env st) whole) Qc Ec s
theorem B_and_nil : SBs w G0 lv st .And [] (fun _ H => .ok true H) := fun a φ F H s Qc Ec pos whole ok R h => isTrue_and_nil (PO.here h R)
theorem B_or_nil : SBs w G0 lv st .Or [] (fun _ H => .ok false H) := fun a φ F H s Qc Ec pos whole ok R h => isTrue_or_nil (PO.here h R)
theorem B_and_cons {x : Expr} {es : List Expr} {D1 D2 : Frm → Hp → Res Bool} (h1 : SB w G0 lv st x D1) (h2 : SBs w G0 lv st .And es D2) : SBs w G0 lv st .And (x :: es) (fun F H => (D1 F H).bind fun b H1 => if b then D2 F H1 else .ok false H1) := fun a φ F H s Qc Ec pos whole ok R h =>
  isTrue_and (h1 a φ F H s _ Ec ok R (PO.bind2 h fun b φ1 H1 s1 R1 X1 h' => by
    induction b with
    | true => rw [if_pos rfl] at h' ⊢; exact h2 a φ1 F H1 s1 Qc Ec pos whole ok R1 h'
    | false => rw [if_neg (by decide)] at h' ⊢; exact PO.here h' R1))
theorem B_or_cons {x : Expr} {es : List Expr} {D1 D2 : Frm → Hp → Res Bool} (h1 : SB w G0 lv st x D1) (h2 : SBs w G0 lv st .Or es D2) : SBs w G0 lv st .Or (x :: es) (fun F H => (D1 F H).bind fun b H1 => if b then .ok true H1 else D2 F H1) := fun a φ F H s Qc Ec pos whole ok R h =>
  isTrue_or (h1 a φ F H s _ Ec ok R (PO.bind2 h fun b φ1 H1 s1 R1 X1 h' => by
    induction b with
    | false => rw [if_neg (by decide)] at h' ⊢; exact h2 a φ1 F H1 s1 Qc Ec pos whole ok R1 h'
    | true => rw [if_pos rfl] at h' ⊢; exact PO.here h' R1))
theorem B_bool {op : BoolOp} {es : List Expr} {pos : Pos} {D : Frm → Hp → Res Bool} (h : SBs w G0 lv st op es D) : SB w G0 lv st (.BoolOp op es pos) D := fun a φ F H s Qc Ec ok R h' => h a φ F H s Qc Ec pos _ ok R h'
theorem S_if {t b o : Expr} {pos : Pos} {D : Frm → Hp → Res Bool} {D1 D2 : Frm → Hp → Res AV} (h0 : SB w G0 lv st t D) (h1 : SE w G0 lv st b D1) (h2 : SE w G0 lv st o D2) :
    SE w G0 lv st (.IfExp t b o pos) (fun F H => (D F H).bind fun c H1 => if c then D1 F H1 else D2 F H1) := fun a φ F H s Qc Ec ok R h =>
  IfExp_ (h0 a φ F H s _ Ec ok R (PO.bind2 h fun c φ1 H1 s1 R1 X1 h' => by
    induction c with
    | true => rw [if_pos rfl] at h' ⊢; exact h1 a φ1 F H1 s1 Qc Ec ok R1 h'
    | false => rw [if_neg (by decide)] at h' ⊢; exact h2 a φ1 F H1 s1 Qc Ec ok R1 h'))
end
end Mine
end
-- M5
section
open PySem PySem.W PyProof.Rows PySem.Calls PySem.Spec
set_option Elab.async false
set_option linter.all false
namespace Mine
set_option maxRecDepth 100000
section
variable {w : World} {p : Program} {loose : List Str} {mean : ExcName → Option Value} {mg mb : Str → Option Value} {G0 : Heap} {lv : Nat} {st : Sta}

-- and / or as values
theorem S_bone {op : BoolOp} {e : Expr} {pos : Pos} {D : Frm → Hp → Res AV} (h : SE w G0 lv st e D) : SE w G0 lv st (.BoolOp op [e] pos) D := fun a φ F H s Qc Ec ok R h' => BoolOp_one (h a φ F H s Qc Ec ok R h')
theorem S_and {e1 e2 : Expr} {es : List Expr} {pos : Pos} {D1 D2 : Frm → Hp → Res AV} (h1 : SE w G0 lv st e1 D1) (h2 : SE w G0 lv st (.BoolOp .And (e2 :: es) pos) D2) :
    SE w G0 lv st (.BoolOp .And (e1 :: e2 :: es) pos) (fun F H => (D1 F H).bind fun x H1 => (tv x H1).bind fun c H2 => if c then D2 F H2 else .ok x H2) := fun a φ F H s Qc Ec ok R h =>
  BoolOp_and (h1 a φ F H s _ Ec ok R (PO.bind2 h fun x φ1 H1 s1 R1 X1 h' v hv => O_truth a φ1 F H1 s1 _ Ec x v R1 hv (PO.bind2 h' fun c φ2 H2 s2 R2 X2 h'' => by
    induction c with
    | true => rw [if_pos rfl] at h'' ⊢; exact h2 a φ2 F H2 s2 Qc Ec ok R2 h''
    | false => rw [if_neg (by decide)] at h'' ⊢; exact PO.here h'' R2 v (hv.ext X2))))

-- None
noncomputable def isN : AV → Option Bool
  | .none => some true
  | .int _ => some false
  | .ref _ => some false
  | .bool _ => some false
  | _ => none
theorem isN_at {φ : Nat → Addr} {n : Nat} {x : AV} {v : Value} {b : Bool} (h : VR φ n x v) (e : isN x = some b) : plainIs v .none = true ∧ (v == Value.none) = b := by
  unfold isN at e
  split at e
  · obtain rfl := Option.some.inj e; subst h; exact ⟨rfl, rfl⟩
  · obtain rfl := Option.some.inj e; obtain ⟨t, rfl⟩ := h; exact ⟨rfl, rfl⟩
  · obtain rfl := Option.some.inj e; obtain ⟨_, rfl⟩ := h; exact ⟨rfl, rfl⟩
  · obtain rfl := Option.some.inj e; subst h; exact ⟨rfl, rfl⟩
  · exact no_some9 e
/-- is None, is not None -/
noncomputable def oIs (f : Bool → Bool) (x y : AV) (H : Hp) : Res AV := match y with
  | .none => (match isN x with | some b => .ok (.bool (f b)) H | none => .stuck)
  | _ => .stuck
theorem C_is : SO2 w G0 lv st (compareOp .Is) (oIs id) := fun a φ F H s Qc Ec x y v u ok R hx hy h => by
  unfold oIs at h
  split at h
  · subst hy
    induction e : isN x with
    | none => rw [e] at h; exact h.elim
    | some b =>
      rw [e] at h
      refine xa2 (isN_at hx e) fun h1 h2 => ?_
      exact wpAny_is_plain h1 (by rw [h2]; exact PO.here h R _ rfl)
  · exact h.elim
theorem C_isnot : SO2 w G0 lv st (compareOp .IsNot) (oIs not) := fun a φ F H s Qc Ec x y v u ok R hx hy h => by
  unfold oIs at h
  split at h
  · subst hy
    induction e : isN x with
    | none => rw [e] at h; exact h.elim
    | some b =>
      rw [e] at h
      refine xa2 (isN_at hx e) fun h1 h2 => ?_
      exact wpAny_isNot_plain h1 (by rw [h2]; exact PO.here h R _ rfl)
  · exact h.elim

-- dicts
theorem VR.handed {φ : Nat → Addr} {n : Nat} {a : AV} {v : Value} (h : VR φ n a v) (hb : ∀ t, a ≠ .bltn t) : handedIn v = true := by
  induction a <;> simp only [VR] at h
  · subst h; rfl
  · subst h; rfl
  · obtain ⟨t, rfl⟩ := h; rfl
  · obtain ⟨_, t, rfl, _⟩ := h; rfl
  · obtain ⟨_, t, rfl⟩ := h; rfl
  · obtain ⟨_, rfl⟩ := h; rfl
  · subst h; rfl
  · subst h; rfl
  · exact absurd rfl (hb _)
theorem ER.isStr {φ : Nat → Addr} {n : Nat} {P : World} {q : Nat × AV} {e : DictEntry} (h : ER φ n P q e) {c : Nat} {x : Str} (hc : KN c x) : e.key.isStr x = (c == q.1) := by
  obtain ⟨y, hy, ⟨t, hk⟩, _⟩ := h
  rw [hk]
  show (y == x) = _
  rw [Bool.eq_iff_iff, beq_iff_eq, beq_iff_eq, hy.inj hc]
  exact eq_comm
theorem ER.noRef {φ : Nat → Addr} {n : Nat} {P : World} {q : Nat × AV} {e : DictEntry} (h : ER φ n P q e) : e.refKey = false := by
  obtain ⟨_, _, ⟨t, hk⟩, _⟩ := h
  unfold DictEntry.refKey
  rw [hk]
theorem anyRef {φ : Nat → Addr} {n : Nat} {P : World} {es : List (Nat × AV)} {es' : List DictEntry} (h : All2 (ER φ n P) es es') : es'.any (·.refKey) = false := by
  induction h with
  | nil => rfl
  | cons hd _ ih => rw [List.any_cons, hd.noRef, ih]; rfl
theorem find_at {φ : Nat → Addr} {n : Nat} {P : World} {c : Nat} {x : Str} (hc : KN c x) {es : List (Nat × AV)} {es' : List DictEntry} (h : All2 (ER φ n P) es es') :
    match es.lookup c with | some v => ∃ d, es'.find? (fun y => y.key.isStr x) = some d ∧ VR φ n v d.val | none => es'.find? (fun y => y.key.isStr x) = none := by
  induction h with
  | nil => rfl
  | @cons p d l r hd _ ih =>
    obtain ⟨k, a⟩ := p
    rw [List.lookup_cons, List.find?_cons, hd.isStr hc]
    induction e : (c == k) with
    | true => obtain ⟨_, _, _, _, hv⟩ := hd; exact ⟨d, rfl, hv⟩
    | false => exact ih
theorem getL_some {φ : Nat → Addr} {n : Nat} {P : World} {c : Nat} {x : Str} (hc : KN c x) {es : List (Nat × AV)} {es' : List DictEntry} (h : All2 (ER φ n P) es es') {v : AV} (e : es.lookup c = some v) : ∃ u, getL x es' = some (some u) ∧ VR φ n v u := by
  have := find_at hc h
  rw [e] at this
  refine xe12 (this) fun d h1 h2 => ?_
  exact ⟨d.val, by unfold getL; rw [h1], h2⟩
theorem getL_none {φ : Nat → Addr} {n : Nat} {P : World} {c : Nat} {x : Str} (hc : KN c x) {es : List (Nat × AV)} {es' : List DictEntry} (h : All2 (ER φ n P) es es') (e : es.lookup c = none) : getL x es' = some none := by
  have := find_at hc h
  rw [e] at this
  unfold getL
  rw [show es'.find? (fun y => y.key.isStr x) = none from this, anyRef h]
  rfl
theorem getL_is {φ : Nat → Addr} {n : Nat} {P : World} {c : Nat} {x : Str} (hc : KN c x) {es : List (Nat × AV)} {es' : List DictEntry} (h : All2 (ER φ n P) es es') : (getL x es').isSome = true := by
  induction e : es.lookup c with
  | none => rw [getL_none hc h e]; rfl
  | some v => obtain ⟨u, q, _⟩ := getL_some hc h e; rw [q]; rfl
theorem putL_is {φ : Nat → Addr} {n : Nat} {P : World} {c : Nat} {x : Str} (hc : KN c x) {t : Tok} {v : AV} {u : Value} (hv : VR φ n v u) {es : List (Nat × AV)} {es' : List DictEntry} (h : All2 (ER φ n P) es es') : All2 (ER φ n P) (putS c v es) (putL x (PyData.keyHash P.params x) (.str x t) u es') := by
  induction h with
  | nil => exact .cons ⟨x, hc, ⟨t, rfl⟩, rfl, hv⟩ .nil
  | @cons p d l r hd tl ih =>
    obtain ⟨k, a⟩ := p
    unfold putS putL
    rw [hd.isStr hc]
    by_cases e : k = c
    · subst e
      rw [if_pos rfl, if_pos (beq_self_eq_true _)]
      refine xe14 (hd) fun y hy hk hh _ => ?_
      exact .cons ⟨y, hy, hk, hh, hv⟩ tl
    · rw [if_neg e, if_neg (by simpa using fun q => e q.symm)]
      exact .cons hd ih
theorem putS_len {x : Nat} {v : AV} : ∀ {es : List (Nat × AV)}, (putS x v es).length ≤ es.length + 1
  | [] => Nat.le_refl _
  | (k, a) :: es => by
    unfold putS
    split
    · exact Nat.le_succ _
    · exact Nat.succ_le_succ putS_len

/-- a place of an object, of a class among cs -/
noncomputable def noB : AV → Bool
  | .bltn _ => false
  | _ => true
noncomputable def getA (cs : List Addr) (x : Nat) : AV → Hp → Res AV
  | .ref i, H => (match H.inst i with
    | some (C, d) => if C ∈ cs then (match H.dict d with
      | some es => (match es.lookup x with
        | some v => if noB v then .ok v H else .stuck
        | none => .stuck)
      | none => .stuck) else .stuck
    | none => .stuck)
  | _, _ => .stuck
theorem inst_of {P : World} {φ : Nat → Addr} {n : Nat} {C : Addr} {d : Nat} {o : Obj} (h : OR φ n P (.inst C d) o) : o = instObj C (φ d) := h.2
structure GetOk (w : World) (x : Str) (C : Addr) : Prop where
  g : plainGet (hd.heap_39 w.params) C x = true
  h : hasDictIn (hd.heap_39 w.params) C = true
  a : findIn (hd.heap_39 w.params) (.ref C) x = some none
  n : noGet (hd.heap_39 w.params) none = true
theorem noB_ne {a : AV} (h : noB a = true) (t : String) : a ≠ .bltn t := by rintro rfl; exact no_true9 h
theorem O_getA (GD : Gd w p loose mean mg mb G0) {cs : List Addr} {c : Nat} {x : Str} {e : Bool} (hc : KN c x) (hg : ∀ C ∈ cs, GetOk w x C) :
    SO1 w G0 lv st (fun v => getAttr v x e) (getA cs c) := fun a φ F H s Qc Ec y v ok R hy h => by
  unfold getA at h
  split at h
  · rename_i i
    obtain ⟨hi, rfl⟩ := hy
    split at h
    · rename_i C d e1
      split at h
      · rename_i hC
        split at h
        · rename_i es e2
          split at h
          · rename_i u e3
            split at h
            · rename_i hb
              have R0 := R
              refine xe3 (R) fun g m news r => ?_
              refine xe12 (r.lr.get (Hp.inst_eq e1)) fun ob hm ho => ?_
              obtain rfl := inst_of ho
              obtain ⟨od, hm2, es', c, rfl, hes⟩ := r.lr.get (Hp.dict_eq e2)
              refine xe12 (getL_some hc hes e3) fun u' hu hr => ?_
              have q := hg C hC
              exact get_own r.fr (GD.X.keeps (ok.base r.turn)) (InstAt.of_news r.nw hm hm2) q.g q.h q.a q.n hu (hr.handed (noB_ne hb)) (PO.here h (RelX.toks R0) u' hr)
            · exact h.elim
          · exact h.elim
        · exact h.elim
      · exact h.elim
    · exact h.elim
  · exact h.elim
theorem S_attr {o : Expr} {x : Str} {pos : Pos} {D : Frm → Hp → Res AV} {f : AV → Hp → Res AV} (ho : SO1 w G0 lv st (fun v => getAttr v x true) f) (h1 : SE w G0 lv st o D)
    (he : ∀ env : Env, eval (.Attribute o x pos) env = (do let v ← eval o env; standAt pos.atName; let r ← holding [v] (getAttr v x true); letTemporaryGo o v r; pure r) := by intro; rfl) : SE w G0 lv st (.Attribute o x pos) (fun F H => (D F H).bind f) := fun a φ F H s Qc Ec ok R h =>
  Attribute_any_ (h1 a φ F H s _ Ec ok R (PO.bind2 h fun y φ1 H1 s1 R1 X1 h' v hv => ho a φ1 F H1 s1 Qc Ec y v ok R1 hv h')) (he _)
/-- a place of a class, written -/
theorem S_clsA (GD : Gd w p loose mean mg mb G0) {o : Expr} {pos : Pos} {C : Addr} {x : Str} {mc u : Value} {c : AV} (h1 : SE w G0 lv st o (fun _ H => .ok (.glob C) H)) (hm : typeIn (hd.heap_39 w.params) (.ref C) = some mc) (hr : readsIn (hd.heap_39 w.params) C mc = true) (hf : findCls (hd.heap_39 w.params) (.ref C) mc x = some (.val u)) (hh : handedIn u = true) (hv : ∀ φ n, VR φ n c u)
    (he : ∀ env : Env, eval (.Attribute o x pos) env = (do let v ← eval o env; standAt pos.atName; let r ← holding [v] (getAttr v x true); letTemporaryGo o v r; pure r)) : SE w G0 lv st (.Attribute o x pos) (fun _ H => .ok c H) := fun a φ F H s Qc Ec ok R h =>
  Attribute_any_ (h1 a φ F H s _ Ec ok R (fun φ1 s1 R1 X1 v hv' => by
    subst hv'
    have R0 := R1
    refine xe3 (R1) fun g m news r => ?_
    exact cls_val r.fr (GD.X.keeps (ok.base r.turn)) hm hr hf hh (PO.here (PO.weak h X1) (RelX.toks R0) u (hv _ _)))) (he _)
end
end Mine
end
-- M6
section
open PySem PySem.W PyProof.Rows PySem.Calls PySem.Spec
set_option Elab.async false
set_option linter.all false
set_option genSizeOf false
set_option genInjectivity false
namespace Mine
set_option maxRecDepth 100000
inductive RS where
  | nx (F : Frm) (H : Hp) | ret (v : AV) (F : Frm) (H : Hp) | exc (e : Nat) (F : Frm) (H : Hp) | stuck | guard (p : Prop) (r : RS)
noncomputable def RS.bind (r : RS) (k : Frm → Hp → RS) : RS := RS.rec (motive := fun _ => RS) (fun F H => k F H) (fun v F H => .ret v F H) (fun e F H => .exc e F H) .stuck (fun p _ ih => .guard p ih) r
noncomputable def Res.toS {α : Type} (r : Res α) (F : Frm) (k : α → Hp → RS) : RS := Res.rec (motive := fun _ => RS) (fun x H => k x H) (fun e H => .exc e F H) .stuck (fun p _ ih => .guard p ih) r
noncomputable def PS (P : World) (a : Act) (φ : Nat → Addr) (n : Nat) (r : RS) (Q : Flow → Shared → Prop) (E : Value → Shared → Prop) : Prop := RS.rec (motive := fun _ => Prop) (fun F H => ∀ φ' s', RelX P a φ' F H s' → Ext φ n φ' H.next → Q .next s')
  (fun v F H => ∀ φ' s' u, RelX P a φ' F H s' → Ext φ n φ' H.next → VR φ' H.next v u → Q (.ret u) s')
  (fun e F H => ∀ φ' s', RelX P a φ' F H s' → Ext φ n φ' H.next → e < H.next → E (.ref (φ' e)) s') False (fun p _ ih => p ∧ ih) r
theorem PS.weak {P : World} {a : Act} {φ φ' : Nat → Addr} {n n' : Nat} {r : RS} {Q : Flow → Shared → Prop} {E : Value → Shared → Prop}
    (h : PS P a φ n r Q E) (X : Ext φ n φ' n') : PS P a φ' n' r Q E := by
  induction r with
  | nx F H => exact fun φ' s' R Y => h φ' s' R (X.trans Y)
  | ret v F H => exact fun φ' s' u R Y => h φ' s' u R (X.trans Y)
  | exc e F H => exact fun φ' s' R Y => h φ' s' R (X.trans Y)
  | stuck => exact h
  | guard p r ih => exact ⟨h.1, ih h.2⟩
theorem PS.bind {P : World} {a : Act} {φ : Nat → Addr} {n : Nat} {r : RS} {k : Frm → Hp → RS} {Q Q' : Flow → Shared → Prop} {E : Value → Shared → Prop}
    (h : PS P a φ n (r.bind k) Q E) (kk : ∀ φ' F H s', RelX P a φ' F H s' → PS P a φ' H.next (k F H) Q E → Q' .next s') (kr : ∀ u s', Q (.ret u) s' → Q' (.ret u) s') : PS P a φ n r Q' E := by
  induction r with
  | nx F H => exact fun φ' s' R X => kk _ _ _ _ R (PS.weak h X)
  | ret v F H => exact fun φ' s' u R X hu => kr _ _ (h φ' s' u R X hu)
  | exc e F H => exact h
  | stuck => exact h
  | guard p r ih => exact ⟨h.1, ih h.2⟩
theorem PS.ofE {P : World} {a : Act} {φ : Nat → Addr} {n : Nat} {F : Frm} {α : Type} {r : Res α} {k : α → Hp → RS} {Q : Flow → Shared → Prop} {E : Value → Shared → Prop} {K' : α → (Nat → Addr) → Hp → Shared → Prop}
    (h : PS P a φ n (r.toS F k) Q E) (kk : ∀ x φ' H s', RelX P a φ' F H s' → Ext φ n φ' H.next → PS P a φ' H.next (k x H) Q E → K' x φ' H s') : PO P a φ n F r K' E := by
  induction r with
  | ok x H => exact fun φ' s' R X => kk _ _ _ _ R X (PS.weak h X)
  | exc e H => exact h
  | stuck => exact h
  | guard p r ih => exact ⟨h.1, ih h.2⟩
section
variable {w : World} {p : Program} {loose : List Str} {mean : ExcName → Option Value} {mg mb : Str → Option Value} {G0 : Heap} {lv : Nat} {st : Sta}
noncomputable def SS (w : World) (G0 : Heap) (lv : Nat) (st : Sta) (t : Stmt) (D : Frm → Hp → RS) : Prop :=
  ∀ (a : Act) (φ : Nat → Addr) (F : Frm) (H : Hp) (s : Shared) (Q : Flow → Shared → Prop) (E : Value → Shared → Prop), a.Ok st lv G0 → RelX w a φ F H s → OwnE (model PR w) a.A (a.env st) E →
    PS w a φ H.next (D F H) Q E → wpAny (model PR w) a.A (exec t (a.env st)) Q E s
noncomputable def SSs (w : World) (G0 : Heap) (lv : Nat) (st : Sta) (t : List Stmt) (D : Frm → Hp → RS) : Prop :=
  ∀ (a : Act) (φ : Nat → Addr) (F : Frm) (H : Hp) (s : Shared) (Q : Flow → Shared → Prop) (E : Value → Shared → Prop), a.Ok st lv G0 → RelX w a φ F H s → OwnE (model PR w) a.A (a.env st) E →
    PS w a φ H.next (D F H) Q E → wpAny (model PR w) a.A (execs t (a.env st)) Q E s
theorem T_nil : SSs w G0 lv st [] (fun F H => .nx F H) := fun a φ F H s Q E ok R hE h => wpAny_execs_nil (h φ s R .refl)
theorem T_cons {t : Stmt} {ts : List Stmt} {D1 D2 : Frm → Hp → RS} (h1 : SS w G0 lv st t D1) (h2 : SSs w G0 lv st ts D2) : SSs w G0 lv st (t :: ts) (fun F H => (D1 F H).bind D2) := fun a φ F H s Q E ok R hE h =>
  wpAny_execs_cons (h1 a φ F H s _ E ok R hE (PS.bind h (fun φ1 F1 H1 s1 R1 h' => h2 a φ1 F1 H1 s1 Q E ok R1 hE h') (fun u s' q => q)))
theorem T_ret {e : Expr} {pos : Pos} {D : Frm → Hp → Res AV} (h1 : SE w G0 lv st e D) : SS w G0 lv st (.Return (some e) pos) (fun F H => (D F H).toS F fun v H1 => .ret v F H1) := fun a φ F H s Q E ok R hE h =>
  wpAny_Return_some (h1 a φ F H s _ E ok R (PS.ofE h fun v φ1 H1 s1 R1 X1 h' u hu => h' φ1 s1 u R1 .refl hu))
theorem T_ret0 {pos : Pos} : SS w G0 lv st (.Return none pos) (fun F H => .ret .none F H) := fun a φ F H s Q E ok R hE h => wpAny_Return_none (h φ s .none R .refl rfl)
theorem T_if {t : Expr} {b o : List Stmt} {pos : Pos} {D : Frm → Hp → Res Bool} {D1 D2 : Frm → Hp → RS} (h0 : SB w G0 lv st t D) (h1 : SSs w G0 lv st b D1) (h2 : SSs w G0 lv st o D2) :
    SS w G0 lv st (.If t b o pos) (fun F H => (D F H).toS F fun c H1 => if c then D1 F H1 else D2 F H1) := fun a φ F H s Q E ok R hE h =>
  wpAny_If (h0 a φ F H s _ E ok R (PS.ofE h fun c φ1 H1 s1 R1 X1 h' => by
    induction c with
    | true => rw [if_pos rfl] at h' ⊢; exact h1 a φ1 F H1 s1 Q E ok R1 hE h'
    | false => rw [if_neg (by decide)] at h' ⊢; exact h2 a φ1 F H1 s1 Q E ok R1 hE h'))
theorem T_expr {e : Expr} {pos : Pos} {D : Frm → Hp → Res AV} (h1 : SE w G0 lv st e D) (hs : ∀ a : Act, swapsWith e none pos.line (a.env st) = pure false := by intro; rfl) :
    SS w G0 lv st (.Expr e pos) (fun F H => (D F H).toS F fun _ H1 => .nx F H1) := fun a φ F H s Q E ok R hE h =>
  wpAny_Expr_any (h1 a φ F H s _ E ok R (PS.ofE h fun v φ1 H1 s1 R1 X1 h' u hu => h' φ1 s1 R1 .refl)) (by show (st.scope.kind == .module && _) = false; rw [ok.kind]; rfl) (hs a)

theorem putS_lookup {α : Type} {x y : Nat} {v : α} : ∀ {l : List (Nat × α)}, (putS x v l).lookup y = if y = x then some v else l.lookup y
  | [] => by
    unfold putS
    rw [List.lookup_cons]
    by_cases h : y = x
    · subst h; rw [beq_self_eq_true, if_pos rfl]
    · rw [show (y == x) = false from by simpa using h, if_neg h]
  | (z, u) :: l => by
    unfold putS
    by_cases h : z = x
    · subst h
      rw [if_pos rfl, List.lookup_cons, List.lookup_cons]
      by_cases q : y = z
      · subst q; rw [beq_self_eq_true, if_pos rfl]
      · rw [show (y == z) = false from by simpa using q, if_neg q]
    · rw [if_neg h, List.lookup_cons, List.lookup_cons]
      by_cases q : y = z
      · subst q; rw [beq_self_eq_true, if_neg h]
      · rw [show (y == z) = false from by simpa using q]; exact putS_lookup
/-- a name is stored -/
noncomputable def SN (w : World) (G0 : Heap) (lv : Nat) (st : Sta) (x : Str) (f : AV → Frm → Hp → Option (Frm × Hp)) : Prop :=
  ∀ (a : Act) (φ : Nat → Addr) (F : Frm) (H : Hp) (s : Shared) (Q : Unit → Shared → Prop) (E : Value → Shared → Prop) (v : AV) (u : Value), a.Ok st lv G0 → RelX w a φ F H s → VR φ H.next v u →
    (match f v F H with | some y => ∀ φ' s', RelX w a φ' y.1 y.2 s' → Ext φ H.next φ' y.2.next → Q () s' | none => False) → wpAny (model PR w) a.A (storeName (a.env st) x u) Q E s
noncomputable def stL (x : Nat) (v : AV) (F : Frm) (H : Hp) : Option (Frm × Hp) := some ({ F with loc := putS x v F.loc }, H)
noncomputable def stC (x : Nat) (v : AV) (F : Frm) (H : Hp) : Option (Frm × Hp) := match F.cl.lookup x with
  | some i => (match H.cell i with
    | some _ => some (F, H.set i (.cell (some v)))
    | none => none)
  | none => none
theorem N_loc {c : Nat} {x : Str} (hc : KN c x) (hx : st.scope.names.lookup x = some .local) : SN w G0 lv st x (stL c) := fun a φ F H s Q E v u ok R hu h => by
  refine xe3 (R) fun g m news r => ?_
  refine wpAny_storeName_local hx r.fr.ns (fun h' hn hs => h φ _ ⟨g, _, news, ⟨r.fr.set hn hs, r.nw.set hs, r.lr, fun d y b hy e => ?_, r.cl, r.turn, r.same⟩⟩ .refl) (by show (st.scope.kind == .class || (st.scope.kind == .module && _)) = false; rw [ok.kind]; rfl)
  dsimp only at e ⊢
  rw [putS_lookup] at e
  by_cases q : d = c
  · rw [if_pos q] at e; obtain rfl := Option.some.inj e; rw [if_pos ((hy.inj hc).mpr q)]; exact ⟨u, rfl, hu⟩
  · rw [if_neg q] at e; rw [if_neg fun z => q ((hy.inj hc).mp z)]; exact r.loc d y b hy e
theorem Upd.fn {d : Addr} {o o' : Obj} {l l' : List (Addr × Obj)} (U : Upd d o o' l l') : ∃ g, UpdF d o l g ∧ ∀ o'', Upd d o o'' l (g o'') := by
  induction U with
  | head h => exact ⟨_, .head h, fun _ => .head h⟩
  | tail h _ ih =>
    refine xe12 (ih) fun g a b => ?_
    exact ⟨_, .tail h a, fun o'' => .tail h (b o'')⟩
theorem Upd.uniq {d : Addr} {o o' : Obj} {l l1 : List (Addr × Obj)} (U : Upd d o o' l l1) : ∀ {l2}, Upd d o o' l l2 → l1 = l2 := by
  induction U with
  | head h => intro l2 V; cases V with
    | head _ => rfl
    | tail h' _ => exact absurd rfl h'
  | tail h _ ih => intro l2 V; cases V with
    | head _ => exact absurd rfl h
    | tail _ V' => rw [ih V']
theorem N_cell {c : Nat} {x : Str} (hc : KN c x) (hx : st.scope.names.lookup x = some .cell) : SN w G0 lv st x (stC c) := fun a φ F H s Q E v u ok R hu h => by
  unfold stC at h
  induction e1 : F.cl.lookup c with
  | none => rw [e1] at h; exact h.elim
  | some i =>
    rw [e1] at h
    dsimp only at h
    induction e2 : H.cell i with
    | none => rw [e2] at h; exact h.elim
    | some o =>
      rw [e2] at h
      dsimp only at h
      refine xe3 (R) fun g m news r => ?_
      refine xe13 (r.lr.upd (Hp.cell_eq e2)) fun ob hob hm hup => ?_
      refine xe12 (hob) fun c0 hc0 _ => ?_
      refine xe12 (hup (a' := .cell none) (o' := { cls := .none, data := .cell none }) ⟨none, rfl, rfl⟩) fun n0 u0 _ => ?_
      refine xe12 (Upd.fn u0) fun gf uf ug => ?_
      obtain ⟨own, rest, rfl, hg, h1, h2⟩ := uf.split
      have hmem := r.nw (φ i, ob) (List.mem_append_right _ (.head _))
      refine wpAny_storeName_cell ok.kind hx (all2_cl hc r.cl e1).1 ⟨ob, hmem.1, hc0⟩ fun h' hv hs => ?_
      refine xe12 (hv) fun o' ho' hd' => ?_
      refine xe12 (hup (a' := .cell (some v)) (o' := o') ⟨_, hd', hu⟩) fun n1 u1 l1 => ?_
      have N' := hg o' ▸ r.nw.setAt h1 h2 hs ho'
      rw [Mine.Upd.uniq (ug o') u1] at N'
      exact h φ _ ⟨g, m, n1, ⟨⟨r.fr.ns.sameBut hs (Ne.symm hmem.2.1), fun b ob e => (hs.2 b (fun q => by rw [q, hmem.2.2] at e; exact no_some9 e)).trans (r.fr.keep b ob e), r.fr.above⟩, N', l1, r.loc, r.cl, r.turn, r.same⟩⟩ .refl
theorem T_name {x : Str} {xp : Pos} {e : Expr} {pos : Pos} {D : Frm → Hp → Res AV} {f : AV → Frm → Hp → Option (Frm × Hp)} (hn : SN w G0 lv st x f) (h1 : SE w G0 lv st e D) (hs : ∀ a : Act, swapsWith e (some (.Name x xp)) pos.line (a.env st) = pure false := by intro; rfl) :
    SS w G0 lv st (.Assign [.Name x xp] e pos) (fun F H => (D F H).toS F fun v H1 => match f v F H1 with | some y => .nx y.1 y.2 | none => .stuck) := fun a φ F H s Q E ok R hE h =>
  wpAny_Assign_Name (h1 a φ F H s _ E ok R (PS.ofE h fun v φ1 H1 s1 R1 X1 h' u hu => hn a φ1 F H1 s1 _ E v u ok R1 hu (by
    induction q : f v F H1 with
    | none => rw [q] at h'; exact h'
    | some y => rw [q] at h'; exact h'))) (hs a)
/-- an operation without a value -/
noncomputable def SU2 (w : World) (G0 : Heap) (lv : Nat) (st : Sta) (t : Value → Value → Sem Unit) (f : AV → AV → Hp → Res Unit) : Prop :=
  ∀ (a : Act) (φ : Nat → Addr) (F : Frm) (H : Hp) (s : Shared) (Qc : Unit → Shared → Prop) (Ec : Value → Shared → Prop) (x y : AV) (v u : Value), a.Ok st lv G0 → RelX w a φ F H s → VR φ H.next x v → VR φ H.next y u →
    PO w a φ H.next F (f x y H) (fun _ φ' H' s' => Qc () s') Ec → wpAny (model PR w) a.A (t v u) Qc Ec s
noncomputable def SU3 (w : World) (G0 : Heap) (lv : Nat) (st : Sta) (t : Value → Value → Value → Sem Unit) (f : AV → AV → AV → Hp → Res Unit) : Prop :=
  ∀ (a : Act) (φ : Nat → Addr) (F : Frm) (H : Hp) (s : Shared) (Qc : Unit → Shared → Prop) (Ec : Value → Shared → Prop) (x y z : AV) (v u t' : Value), a.Ok st lv G0 → RelX w a φ F H s → VR φ H.next x v → VR φ H.next y u → VR φ H.next z t' →
    PO w a φ H.next F (f x y z H) (fun _ φ' H' s' => Qc () s') Ec → wpAny (model PR w) a.A (t v u t') Qc Ec s
theorem T_attr {o e : Expr} {x : Str} {ap pos : Pos} {D1 D2 : Frm → Hp → Res AV} {f : AV → AV → Hp → Res Unit} (ho : SU2 w G0 lv st (fun v u => setAttr v x u) f) (h1 : SE w G0 lv st e D1) (h2 : SE w G0 lv st o D2)
    (hs : ∀ a : Act, swapsWith e (some (.Attribute o x ap)) pos.line (a.env st) = pure false := by intro; rfl) :
    SS w G0 lv st (.Assign [.Attribute o x ap] e pos) (fun F H => (D1 F H).toS F fun v H1 => (D2 F H1).toS F fun y H2 => (f y v H2).toS F fun _ H3 => .nx F H3) := fun a φ F H s Q E ok R hE h =>
  plainObj_wpAny_Assign_Attribute (h1 a φ F H s _ E ok R (PS.ofE h fun v φ1 H1 s1 R1 X1 h' u hu => h2 a φ1 F H1 s1 _ E ok R1 (PS.ofE h' fun y φ2 H2 s2 R2 X2 h'' t ht =>
    ho a φ2 F H2 s2 _ E y v t u ok R2 ht (hu.ext X2) (PS.ofE h'' fun _ φ3 H3 s3 R3 X3 h3 => h3 φ3 s3 R3 .refl)))) (hs a)
theorem T_sub {o i e : Expr} {ap pos : Pos} {D1 D2 D3 : Frm → Hp → Res AV} {f : AV → AV → AV → Hp → Res Unit} (ho : SU3 w G0 lv st setItem f) (h1 : SE w G0 lv st e D1) (h2 : SE w G0 lv st o D2) (h3 : SE w G0 lv st i D3)
    (hs : ∀ a : Act, swapsWith e (some (.Subscript o i ap)) pos.line (a.env st) = pure false := by intro; rfl) :
    SS w G0 lv st (.Assign [.Subscript o i ap] e pos) (fun F H => (D1 F H).toS F fun v H1 => (D2 F H1).toS F fun y H2 => (D3 F H2).toS F fun z H3 => (f y z v H3).toS F fun _ H4 => .nx F H4) := fun a φ F H s Q E ok R hE h =>
  wpAny_Assign_Subscript (h1 a φ F H s _ E ok R (PS.ofE h fun v φ1 H1 s1 R1 X1 h' u hu => h2 a φ1 F H1 s1 _ E ok R1 (PS.ofE h' fun y φ2 H2 s2 R2 X2 h'' t ht =>
    h3 a φ2 F H2 s2 _ E ok R2 (PS.ofE h'' fun z φ3 H3 s3 R3 X3 hz r hr =>
    ho a φ3 F H3 s3 _ E y z v t r u ok R3 (ht.ext X3) hr ((hu.ext X2).ext X3) (PS.ofE hz fun _ φ4 H4 s4 R4 X4 h4 => h4 φ4 s4 R4 .refl))))) (hs a)

/-- a place of an object is set -/
noncomputable def setA (cs : List Addr) (x : Nat) : AV → AV → Hp → Res Unit
  | .ref i, v, H => (match H.inst i with
    | some (C, d) => if C ∈ cs then (match H.dict d with
      | some es => if es.length < 900 then .ok () (H.set d (.dict (putS x v es))) else .stuck
      | none => .stuck) else .stuck
    | none => .stuck)
  | _, _, _ => .stuck
theorem All2.len2 {α β : Type} {R : α → β → Prop} {l : List α} {r : List β} (h : All2 R l r) : r.length = l.length := h.length.symm
structure SetOk (w : World) (x : Str) (C : Addr) : Prop where
  s : findIn (hd.heap_39 w.params) (.ref C) "__setattr__" = some (some (.builtin "object.__setattr__"))
  p : plainOver (hd.heap_39 w.params) C = true
  t : takerIn (hd.heap_39 w.params) C x = some none
  h : hasDictIn (hd.heap_39 w.params) C = true
theorem O_setA (GD : Gd w p loose mean mg mb G0) {cs : List Addr} {c : Nat} {x : Str} (hc : KN c x) (hs : ∀ C ∈ cs, SetOk w x C) :
    SU2 w G0 lv st (fun v u => setAttr v x u) (setA cs c) := fun a φ F H s Qc Ec y b v u ok R hy hb h => by
  unfold setA at h
  split at h
  · rename_i i
    obtain ⟨hi, rfl⟩ := hy
    split at h
    · rename_i C d e1
      split at h
      · rename_i hC
        split at h
        · rename_i es e2
          split at h
          · rename_i hl
            have R0 := R
            refine xe3 (R) fun g m news r => ?_
            refine xe12 (r.lr.get (Hp.inst_eq e1)) fun ob hm ho => ?_
            obtain rfl := inst_of ho
            refine xe13 (r.lr.upd (Hp.dict_eq e2)) fun od hod hm2 hup => ?_
            obtain ⟨es', n, rfl, hes⟩ := hod
            have hput := putL_is hc (t := s.toks + 1) hb hes
            refine xe12 (hup (a' := .dict (putS c b es)) (o' := dictOf (putL x (PyData.keyHash w.params x) (.str x (s.toks + 1)) u es') (putN x es' n)) ⟨_, _, rfl, hput⟩) fun n1 u1 l1 => ?_
            have q := hs C hC
            refine set_dict r.fr (GD.X.keeps (ok.base r.turn)) r.nw (InstAt.of_news r.nw hm hm2) rfl q.s q.p q.t q.h (getL_is hc hes) rfl u1 ?_ (fun h' F' N' => h φ _ ⟨g, m, n1, ⟨F', N', l1, r.loc, r.cl, r.turn, r.same⟩⟩ .refl)
            have z1 := hput.len2
            have z2 := @putS_len c b es
            lia
          · exact h.elim
        · exact h.elim
      · exact h.elim
    · exact h.elim
  · exact h.elim
end
end Mine
end
-- M7
section
open PySem PySem.W PyProof.Rows PySem.Calls PySem.Spec
set_option Elab.async false
set_option linter.all false
namespace Mine
set_option maxRecDepth 100000
section
variable {w : World} {p : Program} {loose : List Str} {mean : ExcName → Option Value} {mg mb : Str → Option Value} {G0 : Heap} {lv : Nat} {st : Sta}

theorem Rel.push {a : Act} {φ : Nat → Addr} {F : Frm} {H : Hp} {s : Shared} {g : Heap} {m : Str → Option Value} {news : List (Addr × Obj)} (r : Rel w a φ F H s g m news) {D : Addr} {h' : Heap} {ob : Obj} {ao : AO} {k : Nat}
    (F' : Fr g a.L h' m) (N' : News g a.L h' ((D, ob) :: news)) (fresh : ∀ q ∈ news, q.1 ≠ D) (ho : OR φ H.next w ao ob) (hk : noCode ao = true := by rfl) : RelX w a (upφ φ H.next D) F (H.push ao) { s with heap := h', toks := k } := by
  refine ⟨g, m, _, ⟨F', N', r.lr.push ho fresh hk, fun c x v hc e => ?_, r.cl.mono fun p q h => h.ext .up, r.turn, r.same⟩⟩
  obtain ⟨u, h1, h2⟩ := r.loc c x v hc e; exact ⟨u, h1, h2.ext .up⟩
theorem vr_new {φ : Nat → Addr} {n : Nat} {D : Addr} : VR (upφ φ n D) (n + 1) (.ref n) (.ref D) := ⟨Nat.lt_succ_self _, by rw [show upφ φ n D n = D from if_pos rfl]⟩
theorem lt_ne {news : List (Addr × Obj)} {D : Addr} (h : ∀ q ∈ news, q.1 < D) : ∀ q ∈ news, q.1 ≠ D := fun q hq => Nat.ne_of_lt (h q hq)

/-- arguments -/
noncomputable def SA (w : World) (G0 : Heap) (lv : Nat) (st : Sta) (es : List Expr) (D : Frm → Hp → Res (List AV)) : Prop :=
  ∀ (a : Act) (φ : Nat → Addr) (F : Frm) (H : Hp) (s : Shared) (Qc : List Value → Shared → Prop) (Ec : Value → Shared → Prop) (pos : Pos), a.Ok st lv G0 → RelX w a φ F H s →
    PO w a φ H.next F (D F H) (fun xs φ' H' s' => ∀ vs, All2 (VR φ' H'.next) xs vs → Qc vs s') Ec → wpAny (model PR w) a.A (spliced (backTo pos (starEach es (a.env st)))) Qc Ec s
theorem A_nil : SA w G0 lv st [] (fun _ H => .ok [] H) := fun a φ F H s Qc Ec pos ok R h => args_nil (PO.here h R [] .nil)
theorem A_cons {e : Expr} {es : List Expr} {D1 : Frm → Hp → Res AV} {D2 : Frm → Hp → Res (List AV)} (h1 : SE w G0 lv st e D1) (h2 : SA w G0 lv st es D2) (hs : ∀ env : Env, starEach (e :: es) env = (false, eval e env) :: starEach es env := by intro; rfl) :
    SA w G0 lv st (e :: es) (fun F H => (D1 F H).bind fun x H1 => (D2 F H1).bind fun xs H2 => .ok (x :: xs) H2) := fun a φ F H s Qc Ec pos ok R h =>
  args_cons (h1 a φ F H s _ Ec ok R (PO.bind2 h fun x φ1 H1 s1 R1 X1 h' v hv => h2 a φ1 F H1 s1 _ Ec pos ok R1 (PO.bind2 h' fun xs φ2 H2 s2 R2 X2 h'' vs hvs => PO.here h'' R2 _ (.cons (hv.ext X2) hvs)))) (hs _)

-- displays
noncomputable def mkTup (xs : List AV) (H : Hp) : Res AV := if xs.length ≤ 1000 then .ok (.ref H.next) (H.push (.tup xs)) else .stuck
noncomputable def mkList (xs : List AV) (H : Hp) : Res AV := if xs.length ≤ 1000 then .ok (.ref H.next) (H.push (.list xs)) else .stuck
theorem size_ok {n : Nat} (h : n ≤ 1000) : n ≤ sizeLine := by rw [PySem.sizeLine_eq]; lia
theorem O_tup : ∀ (a : Act) (φ : Nat → Addr) (F : Frm) (H : Hp) (s : Shared) (Qc : Value → Shared → Prop) (Ec : Value → Shared → Prop) (xs : List AV) (vs : List Value), a.Ok st lv G0 → RelX w a φ F H s → All2 (VR φ H.next) xs vs →
    PO w a φ H.next F (mkTup xs H) (fun x φ' H' s' => ∀ v, VR φ' H'.next x v → Qc v s') Ec → wpAny (model PR w) a.A (newTuple vs) Qc Ec s := fun a φ F H s Qc Ec xs vs ok R hx h => by
  unfold mkTup at h
  split at h
  · rename_i hl
    refine xe3 (R) fun g m news r => ?_
    exact kup_newTuple r.fr r.nw (fun D h' F' N' l1 => h _ _ (r.push (k := s.toks) F' N' (lt_ne l1) ⟨vs, 0, rfl, hx⟩) .up _ vr_new) (size_ok (by rw [← hx.length]; exact hl))
  · exact h.elim
theorem O_list : ∀ (a : Act) (φ : Nat → Addr) (F : Frm) (H : Hp) (s : Shared) (Qc : Value → Shared → Prop) (Ec : Value → Shared → Prop) (xs : List AV) (vs : List Value), a.Ok st lv G0 → RelX w a φ F H s → All2 (VR φ H.next) xs vs →
    PO w a φ H.next F (mkList xs H) (fun x φ' H' s' => ∀ v, VR φ' H'.next x v → Qc v s') Ec → wpAny (model PR w) a.A (newList vs) Qc Ec s := fun a φ F H s Qc Ec xs vs ok R hx h => by
  unfold mkList at h
  split at h
  · rename_i hl
    refine xe3 (R) fun g m news r => ?_
    exact newList_K r.fr r.nw (fun D h' F' N' l1 => h _ _ (r.push (k := s.toks) F' N' (lt_ne l1) ⟨vs, 0, rfl, hx⟩) .up _ vr_new) (size_ok (by rw [← hx.length]; exact hl))
  · exact h.elim
theorem S_tup {es : List Expr} {k : Nat} {pos : Pos} {D : Frm → Hp → Res (List AV)} (h1 : SA w G0 lv st es D) : SE w G0 lv st (.Tuple es k pos) (fun F H => (D F H).bind mkTup) := fun a φ F H s Qc Ec ok R h =>
  Tuple_ (h1 a φ F H s _ Ec pos ok R (PO.bind2 h fun xs φ1 H1 s1 R1 X1 h' vs hvs => O_tup a φ1 F H1 s1 Qc Ec xs vs ok R1 hvs h'))
theorem S_list {es : List Expr} {pos : Pos} {D : Frm → Hp → Res (List AV)} (h1 : SA w G0 lv st es D) : SE w G0 lv st (.List es pos) (fun F H => (D F H).bind mkList) := fun a φ F H s Qc Ec ok R h =>
  PyProof.Rows.List_ (h1 a φ F H s _ Ec pos ok R (PO.bind2 h fun xs φ1 H1 s1 R1 X1 h' vs hvs => O_list a φ1 F H1 s1 Qc Ec xs vs ok R1 hvs h'))

-- subscripts
theorem all2_get {α β : Type} {R : α → β → Prop} : ∀ {l : List α} {r : List β}, All2 R l r → ∀ {i : Nat} {x : α}, l[i]? = some x → ∃ y, r[i]? = some y ∧ R x y
 := fun t => by
  induction t with
  | nil => intro i x e; induction i <;> cases e
  | cons a t ih =>
    intro i x e
    induction i with
    | zero => obtain rfl := Option.some.inj e; exact ⟨_, rfl, a⟩
    | succ i => exact ih (i := i) e
theorem all2_set {α β : Type} {R : α → β → Prop} {x : α} {y : β} (h : R x y) : ∀ {l : List α} {r : List β}, All2 R l r → ∀ {i : Nat}, All2 R (l.set i x) (r.set i y)
 := fun t => by
  induction t with
  | nil => intro i; exact .nil
  | cons a t ih =>
    intro i
    induction i with
    | zero => exact .cons h t
    | succ i => exact .cons a (ih (i := i))
noncomputable def Hp.seq (H : Hp) (i : Nat) : Option (List AV) := match H.list i with | some vs => some vs | none => H.tup i
theorem Hp.seq_eq {H : Hp} {i : Nat} {vs} (h : H.seq i = some vs) : H.get i = some (.list vs) ∨ H.get i = some (.tup vs) := by
  unfold Hp.seq at h
  split at h
  · rename_i e; obtain rfl := Option.some.inj h; exact .inl (Hp.list_eq e)
  · exact .inr (Hp.tup_eq h)
/-- an item: of a list or a tuple by an int, of a dict by a text -/
noncomputable def getI : AV → AV → Hp → Res AV
  | .ref i, .int k, H => (match H.seq i with
    | some vs => if 0 ≤ k ∧ k < 1000 then (match vs[k.toNat]? with | some v => .ok v H | none => .stuck) else .stuck
    | none => .stuck)
  | .ref i, .str k, H => (match H.pd i with
    | some es => (match es.lookup k with | some v => .ok v H | none => .stuck)
    | none => .stuck)
  | _, _, _ => .stuck
theorem pd_at {φ : Nat → Addr} {n : Nat} {c : Nat} {x : Str} (hc : KN c x) {es : List (Nat × AV)} {kvs : List (Str × Value)} (h : All2 (fun p q => KN p.1 q.1 ∧ VR φ n p.2 q.2) es kvs) : ∀ {v : AV}, es.lookup c = some v → ∃ u, valueAt kvs x = some u ∧ VR φ n v u := by
  induction h with
  | nil => intro v e; exact no_some9 e
  | @cons p q l r hd _ ih =>
    intro v e
    obtain ⟨k, a⟩ := p
    obtain ⟨y, u⟩ := q
    refine xa2 (hd) fun h1 h2 => ?_
    rw [List.lookup_cons] at e
    unfold valueAt at ih ⊢
    rw [List.find?_cons]
    by_cases z : c = k
    · subst z
      rw [beq_self_eq_true] at e; obtain rfl := Option.some.inj e
      have : y = x := (h1.inj hc).mpr rfl
      exact ⟨u, by simp [this], h2⟩
    · rw [show (c == k) = false from by simpa using z] at e
      have : decide (y = x) = false := decide_eq_false fun q => z ((h1.inj hc).mp q).symm
      simp only [this]
      exact ih e
theorem typeIs_news {g h : Heap} {L : Addr} {news : List (Addr × Obj)} (N : News g L h news) {a : Addr} {o : Obj} (hm : (a, o) ∈ news) {T : String} (hc : o.cls = .type T) {s : Shared} (hs : s.heap = h) : s.TypeIs (.ref a) T := by
  subst hs
  exact ⟨o, (N _ hm).1, hc⟩
theorem seqIx {k : Int} {ws : List Value} (h0 : 0 ≤ k) (hl : k.toNat < ws.length) : seqIndex? k ws.toArray.size = some k.toNat := by
  have : k < (ws.toArray.size : Int) := by rw [List.size_toArray]; lia
  simp only [seqIndex?]
  simp [h0, this]
  try lia
theorem getI_at {a : Act} {φ : Nat → Addr} {F : Frm} {H : Hp} {s : Shared} {Qc : Value → Shared → Prop} {Ec : Value → Shared → Prop} {x y : AV} {u k : Value} {v i : Expr} {D} (hD : D = fun t => subscriptTail v i t) (hs : ∀ (a k : Value), subscripted i false a k = operate [a, k] (getItem a k)) (R2 : RelX w a φ F H s) (hu : VR φ H.next x u) (hk : VR φ H.next y k)
    (h : PO w a φ H.next F (getI x y H) (fun x φ' H' s' => ∀ v, VR φ' H'.next x v → Qc v s') Ec) : wpAny (model PR w) a.A (D u k) Qc Ec s := by
  subst hD
  unfold getI at h
  have R0 := R2
  refine xe3 (R2) fun g m news r => ?_
  split at h
  · rename_i j z
    obtain ⟨hj, rfl⟩ := hu
    obtain ⟨t, rfl⟩ := hk
    split at h
    · rename_i vs e1
      split at h
      · rename_i hz
        split at h
        · rename_i q e2
          rcases Hp.seq_eq e1 with e1 | e1
          · obtain ⟨ob, hm, ws, c, rfl, hw⟩ := r.lr.get e1
            refine xe12 (all2_get hw e2) fun q' e3 hq => ?_
            exact tail_any (typeIs_news r.nw hm rfl rfl) slot_list_getitem.lookup (wpAny_getItem_list (r.nw.isList hm) hz.1 (by lia) (by simpa using e3) (PO.here h R0 q' hq)) (hs _ _)
          · obtain ⟨ob, hm, ws, c, rfl, hw⟩ := r.lr.get e1
            refine xe12 (all2_get hw e2) fun q' e3 hq => ?_
            have hl : z.toNat < ws.length := (List.getElem?_eq_some_iff.mp e3).1
            exact tail_any (typeIs_news r.nw hm rfl rfl) slot_tuple_getitem.lookup (getItem_tuple (j := z.toNat) (r.nw.isTup hm) (by lia) (by lia) (seqIx hz.1 hl) (by simpa using e3) (PO.here h R0 q' hq)) (hs _ _)
        · exact h.elim
      · exact h.elim
    · exact h.elim
  · rename_i j z
    obtain ⟨hj, rfl⟩ := hu
    obtain ⟨x, t, rfl, hc⟩ := hk
    split at h
    · rename_i es e1
      split at h
      · rename_i q e2
        obtain ⟨ob, hm, kvs, hd, hkv⟩ := r.lr.get (Hp.pd_eq e1)
        refine xe12 (pd_at hc hkv e2) fun q' e3 hq => ?_
        have hcl : ob.cls = .type "dict" := by obtain ⟨_, _, hx, _⟩ := hd; exact hx.1
        exact tail_any (typeIs_news r.nw hm hcl rfl) slot_dict_getitem.lookup (kdt_getItem r.nw hm hd (strKind_is _ _ _ _) e3 (PO.here h (RelX.toks R0) q' hq)) (hs _ _)
      · exact h.elim
    · exact h.elim
  · exact h.elim
theorem S_item {v i : Expr} {pos : Pos} {D1 D2 : Frm → Hp → Res AV} (h1 : SE w G0 lv st v D1) (h2 : SE w G0 lv st i D2)
    (hs : ∀ (a k : Value), subscripted i false a k = operate [a, k] (getItem a k) := by intros; rfl) :
    SE w G0 lv st (.Subscript v i pos) (fun F H => (D1 F H).bind fun x H1 => (D2 F H1).bind fun y H2 => getI x y H2) := fun a φ F H s Qc Ec ok R h =>
  Subscript_ (h1 a φ F H s _ Ec ok R (PO.bind h |>.mono fun x φ1 H1 s1 R1 h' u hu => h2 a φ1 F H1 s1 _ Ec ok R1 (PO.bind2 h' fun y φ2 H2 s2 R2 X2 h'' k hk => by
    exact getI_at rfl hs R2 (hu.ext X2) hk h'')))
/-- an item is set -/
noncomputable def setI : AV → AV → AV → Hp → Res Unit
  | .ref i, .int k, v, H => (match H.list i with
    | some vs => if 0 ≤ k ∧ k < 1000 ∧ k.toNat < vs.length then .ok () (H.set i (.list (vs.set k.toNat v))) else .stuck
    | none => .stuck)
  | .ref i, .str k, v, H => (match H.pd i with
    | some es => if es.length < 900 then .ok () (H.set i (.pdict (putS k v es))) else .stuck
    | none => .stuck)
  | _, _, _, _ => .stuck
theorem ki_setL_eq : ∀ {l : List Value} {i : Nat} {v : Value}, i < l.length → ki_setL l i v = some (l.set i v)
  | [], _, _, h => absurd h (Nat.not_lt_zero _)
  | x :: l, 0, v, _ => rfl
  | x :: l, i + 1, v, h => by
    have := @ki_setL_eq l i v (Nat.lt_of_succ_lt_succ h)
    simp only [ki_setL, this]; rfl
theorem stored_is {φ : Nat → Addr} {n : Nat} {c : Nat} {x : Str} (hc : KN c x) {v : AV} {u : Value} (hv : VR φ n v u) {es : List (Nat × AV)} {kvs : List (Str × Value)} (h : All2 (fun p q => KN p.1 q.1 ∧ VR φ n p.2 q.2) es kvs) : (kvs.map (·.1)).Nodup → All2 (fun p q => KN p.1 q.1 ∧ VR φ n p.2 q.2) (putS c v es) (stored kvs x u) := by
  induction h with
  | nil => exact fun _ => .cons ⟨hc, hv⟩ .nil
  | @cons p q l r hd t ih =>
    intro hn
    obtain ⟨k, a⟩ := p
    obtain ⟨k', b⟩ := q
    rw [List.map_cons, List.nodup_cons] at hn
    have ih := ih hn.2
    unfold putS
    unfold stored at ih ⊢
    rw [List.any_cons]
    by_cases h : k' = x
    · subst h
      rw [if_pos ((hd.1.inj hc).mp rfl)]
      simp only [decide_true, Bool.true_or, if_true, List.map_cons]
      refine .cons ⟨hc, hv⟩ ?_
      have : r.map (fun kv => if kv.1 = k' then (kv.1, u) else kv) = r := by
        have hh : ∀ q ∈ r, q.1 ≠ k' := fun q hq e => hn.1 (List.mem_map.mpr ⟨q, hq, e⟩)
        rw [List.map_congr_left (g := id) (fun q hq => by simp [hh q hq])]; simp
      rw [this]; exact t
    · rw [if_neg fun z => h ((hd.1.inj hc).mpr z)]
      simp only [h, decide_false, Bool.false_or]
      split at ih
      · rename_i q; rw [if_pos q, List.map_cons, if_neg h]; exact .cons hd ih
      · rename_i q; rw [if_neg q]; exact .cons hd ih
theorem O_setI : SU3 w G0 lv st setItem setI := fun a φ F H s Qc Ec x y z v u t' ok R hx hy hz h => by
  unfold setI at h
  refine xe3 (R) fun g m news r => ?_
  split at h
  · rename_i j k
    obtain ⟨hj, rfl⟩ := hx
    obtain ⟨t, rfl⟩ := hy
    split at h
    · rename_i vs e1
      refine xe13 (r.lr.upd (Hp.list_eq e1)) fun ob hob hm hup => ?_
      obtain ⟨ws, c, rfl, hw⟩ := hob
      split at h
      · rename_i hk
        refine xe12 (hup (a' := .list (vs.set k.toNat z)) (o' := listOf (ws.set k.toNat t').toArray c) ⟨_, c, rfl, all2_set hz hw⟩) fun n1 u1 l1 => ?_
        exact ki_set r.fr r.nw hk.1 (by lia) (by rw [List.toList_toArray]; exact ki_setL_eq (by rw [← hw.length]; exact hk.2.2)) u1 (fun h' F' N' => h φ _ ⟨g, m, n1, ⟨F', N', l1, r.loc, r.cl, r.turn, r.same⟩⟩ .refl)
      · exact h.elim
    · exact h.elim
  · rename_i j k
    obtain ⟨hj, rfl⟩ := hx
    obtain ⟨x, t, rfl, hc⟩ := hy
    split at h
    · rename_i es e1
      refine xe13 (r.lr.upd (Hp.pd_eq e1)) fun ob hob hm hup => ?_
      refine xe12 (hob) fun kvs hd hkv => ?_
      split at h
      · rename_i hl
        refine xe12 (hup (a' := .pdict es) (o' := ob) ⟨kvs, hd, hkv⟩) fun n0 u0 _ => ?_
        refine xe12 (Mine.Upd.fn u0) fun gf uf ug => ?_
        have hn : (kvs.map (·.1)).Nodup := by obtain ⟨_, _, _, _, _, _, q⟩ := hd; exact q
        refine kda_set (knd := strKind PR w) r.fr r.nw uf hd (strKind_is _ _ _ _) (size_ok (by have := hkv.length; lia)) (fun h' o' F' N' hd' => ?_)
        refine xe12 (hup (a' := .pdict (putS k z es)) (o' := o') ⟨_, hd', stored_is hc hz hkv hn⟩) fun n1 u1 l1 => ?_
        rw [Mine.Upd.uniq (ug o') u1] at N'
        exact h φ _ ⟨g, m, n1, ⟨F', N', l1, r.loc, r.cl, r.turn, r.same⟩⟩ .refl
      · exact h.elim
    · exact h.elim
  · exact h.elim
end
end Mine
end
-- M8
section
open PySem PySem.W PyProof.Rows PySem.Calls PySem.Spec
set_option Elab.async false
set_option linter.all false
namespace Mine
set_option maxRecDepth 100000
section
variable {w : World} {p : Program} {loose : List Str} {mean : ExcName → Option Value} {mg mb : Str → Option Value} {G0 : Heap} {lv : Nat} {st : Sta}

/-- what a call leaves -/
structure Left (w : World) (ks : List (Addr × Obj)) (φ : Nat → Addr) (n : Nat) (news : List (Addr × Obj)) (fs : List (Addr × Obj)) (s : Shared) (φ' : Nat → Addr) (H' : Hp) (s' : Shared) (news' : List (Addr × Obj)) : Prop where
  lr : LR φ' w ks H' news'
  there : ∀ q ∈ news', s'.heap.get? q.1 = some q.2 ∧ (s.heap.get? q.1 = none ∨ q.1 ∈ news.map (·.1))
  ext : Ext φ n φ' H'.next
  kept : ∀ b o, s.heap.get? b = some o → b ∉ news.map (·.1) → b ∉ fs.map (·.1) → s'.heap.get? b = some o
  frames : ∀ q ∈ fs, ∃ sl, s'.heap.get? q.1 = some { q.2 with slots := sl }
  same : s'.gens = s.gens ∧ s'.drawn = s.drawn ∧ s'.os = s.os
noncomputable def PF (w : World) (ks : List (Addr × Obj)) (φ : Nat → Addr) (n : Nat) (news fs : List (Addr × Obj)) (s : Shared) (r : Res AV) (R : Result → Shared → Prop) : Prop := Res.rec (motive := fun _ => Prop) (fun x H' => ∀ φ' s' news' u, Left w ks φ n news fs s φ' H' s' news' → VR φ' H'.next x u → R (.ok (.ret u)) s')
  (fun e H' => ∀ φ' s' news', Left w ks φ n news fs s φ' H' s' news' → e < H'.next → R (.error (.ref (φ' e))) s') False (fun p _ ih => p ∧ ih) r
/-- where a call may begin -/
structure Begins (w : World) (G0 : Heap) (lv : Nat) (nh : Bool) (ks : List (Addr × Obj)) (A : Around) (outer : List Env) (fs : List (Addr × Obj)) (s : Shared) (φ : Nat → Addr) (H : Hp) (news : List (Addr × Obj)) : Prop where
  handled : nh = true → A.handled = none
  frames : A.frames = some outer
  depth : A.depth + 5 * lv < recursionLimit
  units : A.units + 50 * lv < cLine
  outer : ∀ e ∈ outer, e.scope.kind ≠ .module ∧ ∃ b o, e.frame = some b ∧ (b, o) ∈ fs
  fs : ∀ q ∈ fs, s.heap.get? q.1 = some q.2 ∧ G0.get? q.1 = none ∧ (∃ es n, q.2.data = .dict es n) ∧ q.1 ∉ news.map (·.1)
  stays : G0.StaysIn s.heap
  lr : LR φ w ks H news
  there : ∀ q ∈ news, s.heap.get? q.1 = some q.2 ∧ G0.get? q.1 = none
/-- a def is what its reading says -/
noncomputable def SF (w : World) (G0 : Heap) (lv : Nat) (nh : Bool) (f : Value) (D : List AV → Hp → Res AV) : Prop :=
  ∀ (ks : List (Addr × Obj)) (A : Around) (outer : List Env) (fs : List (Addr × Obj)) (s : Shared) (φ : Nat → Addr) (H : Hp) (news : List (Addr × Obj)) (R : Result → Shared → Prop) (xs : List AV) (vs : List Value), Begins w G0 lv nh ks A outer fs s φ H news → All2 (VR φ H.next) xs vs →
    PF w ks φ H.next news fs s (D xs H) R → codeAny (model PR w) A (.call f ⟨vs, []⟩) R s

theorem F_ns {g h : Heap} {L : Addr} {m : Str → Option Value} (F : Fr g L h m) : ∃ o, h.get? L = some o ∧ (∃ es n, o.data = .dict es n) ∧ ∀ (h' : Heap) (sl : Array (Option Value)), h'.get? L = some { o with slots := sl } → h'.Ns L m := by
  refine xe33 (F.ns) fun o es ep ho hd r => ?_
  exact ⟨o, ho, ⟨es, ep, hd⟩, fun h' sl e => ⟨_, es, ep, e, hd, r⟩⟩

/-- out of the frame at hand into a call, and back -/
theorem call_out (GD : Gd w p loose mean mg mb G0) {a : Act} {φ : Nat → Addr} {F : Frm} {H : Hp} {s : Shared} {lv' : Nat} (ok : a.Ok st lv' G0) (R : RelX w a φ F H s) (hcm : st.cm = false) (hl : lv ≤ lv' := by lia) :
    ∃ fs news, Begins w G0 lv st.nh a.ks a.A (a.env st :: a.outer) fs s φ H news ∧ ∀ φ' H' s' news', Left w a.ks φ H.next news fs s φ' H' s' news' → RelX w a φ' F H' s' := by
  refine xe3 (R) fun g m news r => ?_
  refine xa2 (ok.frames hcm) fun hfr hfra => ?_
  refine xe13 (F_ns r.fr) fun oL hL hLd hLns => ?_
  have sg := ok.base r.turn
  have cur : ∀ q ∈ a.fs, ∃ sl, g.get? q.1 = some { q.2 with slots := sl } := fun q hq => r.turn.frame _ _ (ok.fs q hq).1 (List.mem_map_of_mem hq)
  have cur' : ∀ q ∈ a.fs, ∃ sl, s.heap.get? q.1 = some { q.2 with slots := sl } := fun q hq => by obtain ⟨sl, e⟩ := cur q hq; exact ⟨sl, r.fr.keep _ _ e⟩
  have hgL : g.get? a.L = none := kts_self r.fr
  refine ⟨(a.L, oL) :: a.fs.map (fun q => (q.1, (s.heap.get? q.1).getD q.2)), news, ⟨ok.handled, hfr, by have := ok.depth; lia, by have := ok.units; lia, fun e he => ?_, fun q hq => ?_, fun b o e => r.fr.keep b o (sg b o e), r.lr, fun q hq => ⟨(r.nw q hq).1, ?_⟩⟩, fun φ' H' s' news' l => ?_⟩
  · rcases List.mem_cons.mp he with rfl | he
    · exact ⟨by show st.scope.kind ≠ _; rw [ok.kind]; decide, _, _, congrArg some hfra, .head _⟩
    · obtain ⟨h0, b, o, h1, h2⟩ := ok.outer e he
      exact ⟨h0, b, _, h1, .tail _ (List.mem_map.mpr ⟨_, h2, rfl⟩)⟩
  · rcases List.mem_cons.mp hq with rfl | hq
    · refine ⟨hL, ?_, hLd, fun hm => ?_⟩
      · induction e : G0.get? a.L with
        | none => rfl
        | some o => have := sg _ _ e; rw [hgL] at this; exact no_some9 this
      · refine xe12 (List.mem_map.mp hm) fun q hq e => ?_
        exact (r.nw q hq).2.1 e
    · obtain ⟨q', hq', rfl⟩ := List.mem_map.mp hq
      refine xe1 (cur' q' hq') fun sl e => ?_
      dsimp only
      rw [e]
      refine ⟨rfl, (ok.fs q' hq').2.1, (ok.fs q' hq').2.2, fun hm => ?_⟩
      refine xe12 (List.mem_map.mp hm) fun y hy e' => ?_
      have := (r.nw y hy).2.2
      refine xe1 (cur q' hq') fun sl' e2 => ?_
      rw [e', e2] at this; exact no_some8 this
  · induction e : G0.get? q.1 with
    | none => rfl
    | some o => have := sg _ _ e; rw [(r.nw q hq).2.2] at this; exact no_some9 this
  · have fsk : ((a.L, oL) :: a.fs.map (fun q => (q.1, (s.heap.get? q.1).getD q.2))).map (·.1) = a.L :: a.fs.map (·.1) := by
      rw [List.map_cons, List.map_map]; rfl
    obtain ⟨T, S⟩ := kts_turn_at (h := s'.heap) (fs := a.fs.map (·.1)) (g := g)
      (fun b hb => by
        obtain ⟨q, hq, rfl⟩ := List.mem_map.mp hb
        refine xe1 (cur q hq) fun sl e => ?_
        exact ⟨_, e⟩)
      (fun b o e nb => l.kept b o (r.fr.keep b o e) (fun hm => by
        obtain ⟨q, hq, rfl⟩ := List.mem_map.mp hm
        rw [(r.nw q hq).2.2] at e; exact no_some9 e) (fun hm => by
        rw [fsk] at hm
        rcases List.mem_cons.mp hm with rfl | hm
        · rw [hgL] at e; exact no_some9 e
        · exact nb hm))
      (fun b o e hb => by
        obtain ⟨q, hq, rfl⟩ := List.mem_map.mp hb
        refine xe1 (l.frames (q.1, (s.heap.get? q.1).getD q.2) (.tail _ (List.mem_map.mpr ⟨q, hq, rfl⟩))) fun sl e' => ?_
        rw [r.fr.keep _ _ e] at e'
        exact ⟨sl, e'⟩)
    refine xe1 (l.frames (a.L, oL) (.head _)) fun slL eL => ?_
    refine ⟨_, m, news', ⟨⟨hLns _ _ eL, S, by rw [T.size]; exact r.fr.above⟩, fun q hq => ⟨(l.there q hq).1, ?_, T.none_ _ ?_⟩, l.lr, fun c x v hc e => ?_, r.cl.mono fun _ _ h => h.ext l.ext, r.turn.trans T, ?_⟩⟩
    · rcases (l.there q hq).2 with h | h
      · intro e; rw [e, hL] at h; exact no_some8 h
      · refine xe12 (List.mem_map.mp h) fun y hy e => ?_
        exact fun z => (r.nw y hy).2.1 (e.trans z)
    · rcases (l.there q hq).2 with h | h
      · induction e : g.get? q.1 with
        | none => rfl
        | some o => have := r.fr.keep _ _ e; rw [h] at this; exact no_some9 this
      · refine xe12 (List.mem_map.mp h) fun y hy e => ?_
        rw [← e]; exact (r.nw y hy).2.2
    · obtain ⟨u, h1, h2⟩ := r.loc c x v hc e; exact ⟨u, h1, h2.ext l.ext⟩
    · exact ⟨l.same.1.trans r.same.1, l.same.2.1.trans r.same.2.1, l.same.2.2.trans r.same.2.2⟩

/-- a call within a frame -/
noncomputable def SOn (w : World) (G0 : Heap) (lv : Nat) (st : Sta) (t : List Value → Sem Value) (f : List AV → Hp → Res AV) : Prop :=
  ∀ (a : Act) (φ : Nat → Addr) (F : Frm) (H : Hp) (s : Shared) (Qc : Value → Shared → Prop) (Ec : Value → Shared → Prop) (xs : List AV) (vs : List Value), a.Ok st lv G0 → RelX w a φ F H s → All2 (VR φ H.next) xs vs →
    PO w a φ H.next F (f xs H) (fun x φ' H' s' => ∀ v, VR φ' H'.next x v → Qc v s') Ec → wpAny (model PR w) a.A (t vs) Qc Ec s
theorem O_call (GD : Gd w p loose mean mg mb G0) {f : Value} {D : List AV → Hp → Res AV} {nh : Bool} (hf : SF w G0 lv nh f D) (hn : nh = true → st.nh = true) (hcm : st.cm = false) : SOn w G0 (lv + 1) st (fun vs => call f vs) D := fun a φ F H s Qc Ec xs vs ok R hx h => by
  refine xe22 (call_out (lv := lv) GD ok R hcm) fun fs news B back => ?_
  refine wpAny_call (hf a.ks a.A _ fs s φ H news _ xs vs ⟨fun q => B.handled (hn q), B.frames, B.depth, B.units, B.outer, B.fs, B.stays, B.lr, B.there⟩ hx ?_)
  generalize D xs H = rr at h
  induction rr with
  | stuck => exact h
  | ok x H' => exact fun φ' s' news' u l hu => h φ' s' (back _ _ _ _ l) l.ext u hu
  | exc x H' => exact fun φ' s' news' l hlt => h φ' s' (back _ _ _ _ l) l.ext hlt
  | guard p r ih => exact ⟨h.1, ih h.2⟩
/-- a def of the text, called by its name -/
theorem S_call (GD : Gd w p loose mean mg mb G0) {fe : Expr} {f : Addr} {e : Expr} {es : List Expr} {pos : Pos} {DA : Frm → Hp → Res (List AV)} {D : List AV → Hp → Res AV} (hn : SE w G0 lv st fe (fun _ H => .ok (.glob f) H)) (hk : keepIn (hd.heap_39 w.params) (.ref f) = true) (ha : SA w G0 lv st (e :: es) DA)
    (hf : SOn w G0 lv st (fun vs => call (.ref f) vs) D)
    (hs : ∀ env : Env, starEach (e :: es) env = (false, eval e env) :: starEach es env) (hs2 : ∀ env : Env, ((backTo pos (starEach es env)).any (·.1)) = false)
    (hc : ∀ env : Env, eval (.Call fe (e :: es) [] pos) env = (do callWith pos (← eval fe env) [] (backTo pos (starEach (e :: es) env)) (backToKw pos (keywordEach [] env)))) :
    SE w G0 lv st (.Call fe (e :: es) [] pos) (fun F H => (DA F H).bind D) := fun a φ F H s Qc Ec ok R h =>
  Call_ (hn a φ F H s _ Ec ok R (fun φ1 s1 R1 X1 v hv => by
    subst hv
    have R0 := R1
    refine xe3 (R1) fun g m news r => ?_
    refine callWith_K (GD.X.keeps (ok.base r.turn)) hk (ha a φ1 F H s1 _ Ec pos ok R0 (PO.bind2 (PO.weak h X1) fun xs φ2 H2 s2 R2 X2 h' vs hvs => ⟨?_, hf a φ2 F H2 s2 Qc Ec xs _ ok R2 hvs h'⟩)) (hs _) (hs2 _)
    refine xe3 (R2) fun g2 m2 n2 r2 => ?_
    exact (GD.X.keeps (ok.base r2.turn)).keeps r2.fr.keep)) (hc _)
end
end Mine
end
-- M9
section
open PySem PySem.W PyProof.Rows PySem.Calls PySem.Spec
set_option Elab.async false
set_option linter.all false
namespace Mine
set_option maxRecDepth 100000
section
variable {w : World} {p : Program} {loose : List Str} {mean : ExcName → Option Value} {mg mb : Str → Option Value} {G0 : Heap} {lv : Nat} {st : Sta}

-- methods of own classes
noncomputable abbrev MT := List (Addr × Addr × (List AV → Hp → Res AV))
noncomputable def mGet (x : Nat) (mt : MT) (v : AV) (H : Hp) : Option (Nat × Addr × (List AV → Hp → Res AV)) := match v with
  | .ref i => (match H.inst i with
    | some (C, d) => (match H.dict d with
      | some es => (match es.lookup x with
        | none => (mt.lookup C).map fun q => (i, q)
        | some _ => none)
      | none => none)
    | none => none)
  | _ => none
theorem mGet_some {x : Nat} {mt : MT} {v : AV} {H : Hp} {y} (h : mGet x mt v H = some y) : v = .ref y.1 ∧ ∃ C d es, H.get y.1 = some (.inst C d) ∧ H.get d = some (.dict es) ∧ es.lookup x = none ∧ mt.lookup C = some y.2 := by
  unfold mGet at h
  split at h
  · split at h
    · rename_i C d e1
      split at h
      · rename_i es e2
        split at h
        · rename_i e3
          obtain ⟨q, e4, rfl⟩ := Option.map_eq_some_iff.mp h
          exact ⟨rfl, C, d, es, Hp.inst_eq e1, Hp.dict_eq e2, e3, e4⟩
        · exact no_some9 h
      · exact no_some9 h
    · exact no_some9 h
  · exact no_some9 h
structure MtOk (w : World) (G0 : Heap) (lv : Nat) (st : Sta) (x : Str) (C : Addr) (q : Addr × (List AV → Hp → Res AV)) : Prop where
  get : plainGet (hd.heap_39 w.params) C x = true
  find : findIn (hd.heap_39 w.params) (.ref C) x = some (some (.ref q.1))
  fn : isFn (hd.heap_39 w.params) (.ref q.1) = true
  keep : keepIn (hd.heap_39 w.params) (.ref q.1) = true
  on : SOn w G0 lv st (fun vs => call (.ref q.1) vs) q.2
noncomputable def MtAll (w : World) (G0 : Heap) (lv : Nat) (st : Sta) (x : Str) : MT → Prop
  | [] => True
  | q :: r => MtOk w G0 lv st x q.1 q.2 ∧ MtAll w G0 lv st x r
theorem MtAll.at {x : Str} : ∀ {mt : MT}, MtAll w G0 lv st x mt → ∀ {C : Addr} {q}, mt.lookup C = some q → MtOk w G0 lv st x C q
  | [], _, _, _, e => by exact no_some9 e
  | (C', q') :: r, h, C, q, e => by
    rw [List.lookup_cons] at e
    by_cases hC : C = C'
    · subst hC; rw [beq_self_eq_true] at e; obtain rfl := Option.some.inj e; exact h.1
    · rw [show (C == C') = false from by simpa using hC] at e; exact MtAll.at h.2 e
theorem meth_at (GD : Gd w p loose mean mg mb G0) {a : Act} {φ : Nat → Addr} {F : Frm} {H : Hp} {s : Shared} {c : Nat} {x : Str} (hcx : KN c x) {mt : MT} (hm : MtAll w G0 lv st x mt) (ok : a.Ok st lv G0) (R : RelX w a φ F H s) {i : Nat} {C : Addr} {d : Nat} {es : List (Nat × AV)} {q}
    (e1 : H.get i = some (.inst C d)) (e2 : H.get d = some (.dict es)) (e3 : es.lookup c = none) (e4 : mt.lookup C = some q) {pl : Sem Bool} {Q : Value × List Value → Shared → Prop} {E : Value → Shared → Prop} (h : Q (.ref q.1, [.ref (φ i)]) s) : wpAny (model PR w) a.A (getMethod (.ref (φ i)) x pl) Q E s := by
  refine xe3 (R) fun g m news r => ?_
  refine xe12 (r.lr.get e1) fun ob h1 ho => ?_
  obtain rfl := inst_of ho
  obtain ⟨od, h2, es', c, rfl, hes⟩ := r.lr.get e2
  have mo := MtAll.at hm e4
  exact method_inst r.fr (GD.X.keeps (ok.base r.turn)) (InstAt.of_news r.nw h1 h2) mo.get mo.find mo.fn (getL_none hcx hes e3) h
theorem S_meth (GD : Gd w p loose mean mg mb G0) {o e : Expr} {c : Nat} {x : Str} (hcx : KN c x) {es : List Expr} {ap pos : Pos} {mt : MT} {D0 : Frm → Hp → Res AV} {DA : Frm → Hp → Res (List AV)} (hm : MtAll w G0 lv st x mt) (h0 : SE w G0 lv st o D0) (ha : SA w G0 lv st (e :: es) DA)
    (hs : ∀ env : Env, starEach (e :: es) env = (false, eval e env) :: starEach es env) (hs2 : ∀ env : Env, ((backTo pos (starEach es env)).any (·.1)) = false) (pl : Env → Sem Bool)
    (hc : ∀ env : Env, eval (.Call (.Attribute o x ap) (e :: es) [] pos) env = (do let ov ← eval o env; standAt ap.atName; let y ← holding [ov] (getMethod ov x (pl env)); callWith pos y.1 y.2 (backTo pos (starEach (e :: es) env)) [])) :
    SE w G0 lv st (.Call (.Attribute o x ap) (e :: es) [] pos) (fun F H => (D0 F H).bind fun v H1 => match mGet c mt v H1 with | some y => (DA F H1).bind fun xs H2 => y.2.2 (.ref y.1 :: xs) H2 | none => .stuck) := fun a φ F H s Qc Ec ok R h =>
  MethodCall_ (h0 a φ F H s _ Ec ok R (PO.bind2 h fun y φ1 H1 s1 R1 X1 h' v hv => by
    induction e0 : mGet c mt y H1 with
    | none => rw [e0] at h'; exact h'.elim
    | some q =>
      rw [e0] at h'
      obtain ⟨rfl, C, d, es', e1, e2, e3, e4⟩ := mGet_some e0
      obtain ⟨hi, rfl⟩ := hv
      have mo := MtAll.at hm e4
      refine meth_at GD hcx hm ok R1 e1 e2 e3 e4 ?_
      have R0 := R1
      refine xe3 (R1) fun g m news r => ?_
      refine callWith_K (GD.X.keeps (ok.base r.turn)) mo.keep (ha a φ1 F H1 s1 _ Ec pos ok R0 (PO.bind2 h' fun xs φ2 H2 s2 R2 X2 h'' vs hvs => ⟨?_, mo.on a φ2 F H2 s2 Qc Ec (.ref q.1 :: xs) (.ref (φ1 q.1) :: vs) ok R2 (.cons (VR.ext X2 (show VR φ1 H1.next (.ref q.1) (.ref (φ1 q.1)) from ⟨hi, rfl⟩)) hvs) h''⟩)) (hs _) (hs2 _)
      refine xe3 (R2) fun g2 m2 n2 r2 => ?_
      exact (GD.X.keeps (ok.base r2.turn)).keeps r2.fr.keep)) (hc _)
theorem S_meth0 (GD : Gd w p loose mean mg mb G0) {o : Expr} {c : Nat} {x : Str} (hcx : KN c x) {ap pos : Pos} {mt : MT} {D0 : Frm → Hp → Res AV} (hm : MtAll w G0 lv st x mt) (h0 : SE w G0 lv st o D0) (pl : Env → Sem Bool)
    (hc : ∀ env : Env, eval (.Call (.Attribute o x ap) [] [] pos) env = (do let ov ← eval o env; standAt ap.atName; let y ← holding [ov] (getMethod ov x (pl env)); callWith pos y.1 y.2 (backTo pos (starEach [] env)) [])) :
    SE w G0 lv st (.Call (.Attribute o x ap) [] [] pos) (fun F H => (D0 F H).bind fun v H1 => match mGet c mt v H1 with | some y => y.2.2 [.ref y.1] H1 | none => .stuck) := fun a φ F H s Qc Ec ok R h =>
  MethodCall_ (h0 a φ F H s _ Ec ok R (PO.bind2 h fun y φ1 H1 s1 R1 X1 h' v hv => by
    induction e0 : mGet c mt y H1 with
    | none => rw [e0] at h'; exact h'.elim
    | some q =>
      rw [e0] at h'
      obtain ⟨rfl, C, d, es', e1, e2, e3, e4⟩ := mGet_some e0
      obtain ⟨hi, rfl⟩ := hv
      have mo := MtAll.at hm e4
      refine meth_at GD hcx hm ok R1 e1 e2 e3 e4 ?_
      have R0 := R1
      refine xe3 (R1) fun g m news r => ?_
      exact callWith_K0 ((GD.X.keeps (ok.base r.turn)).keeps r.fr.keep) mo.keep (mo.on a φ1 F H1 s1 Qc Ec [.ref q.1] [.ref (φ1 q.1)] ok R0 (.cons ⟨hi, rfl⟩ .nil) h'))) (hc _)
end
end Mine
end
-- M10
section
open PySem PySem.W PyProof.Rows PySem.Calls PySem.Spec
set_option Elab.async false
set_option linter.all false
namespace Mine
set_option maxRecDepth 100000
section
variable {w : World} {p : Program} {loose : List Str} {mean : ExcName → Option Value} {mg mb : Str → Option Value} {G0 : Heap} {lv : Nat} {st : Sta}

theorem out_of {a : Act} {fs : List (Addr × Obj)} {s : Shared} {φ φ' : Nat → Addr} {F : Frm} {H' : Hp} {n : Nat} {s' : Shared} {news : List (Addr × Obj)} (hfs : a.fs = fs) (hB : a.B = hideAll s.heap (news.map (·.1))) (hS : a.S = s)
    (hf : ∀ q ∈ fs, s.heap.get? q.1 = some q.2 ∧ q.1 ∉ news.map (·.1)) (R : RelX w a φ' F H' s') (X : Ext φ n φ' H'.next) : ∃ news', Left w a.ks φ n news fs s φ' H' s' news' := by
  subst hfs hS
  refine xe3 (R) fun g m news' r => ?_
  have t := r.turn
  rw [hB] at t
  have old : ∀ b o, a.S.heap.get? b = some o → b ∉ news.map (·.1) → ∃ o', g.get? b = some o' := fun b o e nb => by
    have e' := hideAll_get (news.map (·.1)) e nb
    by_cases hb : b ∈ a.fs.map (·.1)
    · obtain ⟨sl, z⟩ := t.frame b o e' hb; exact ⟨_, z⟩
    · exact ⟨o, t.other b o e' hb⟩
  refine ⟨news', r.lr, fun q hq => ⟨(r.nw q hq).1, ?_⟩, X, fun b o e nb nf => r.fr.keep b o (t.other b o (hideAll_get _ e nb) nf), fun q hq => ?_, r.same⟩
  · induction e : a.S.heap.get? q.1 with
    | none => exact .inl rfl
    | some o =>
      by_cases hb : q.1 ∈ news.map (·.1)
      · exact .inr hb
      · obtain ⟨o', z⟩ := old _ _ e hb
        rw [(r.nw q hq).2.2] at z; exact no_some9 z
  · obtain ⟨sl, z⟩ := t.frame q.1 q.2 (hideAll_get _ (hf q hq).1 (hf q hq).2) (List.mem_map_of_mem hq)
    exact ⟨sl, r.fr.keep _ _ z⟩

theorem lookup_notin {α : Type} {x : Str} : ∀ {l : List (Str × α)}, x ∉ l.map (·.1) → l.lookup x = none
  | [], _ => rfl
  | (k, u) :: l, h => by
    rw [List.map_cons, List.mem_cons, not_or] at h
    rw [List.lookup_cons, show (x == k) = false from by simpa using h.1]
    exact lookup_notin h.2
noncomputable abbrev BR (φ : Nat → Addr) (n : Nat) (p : Nat × AV) (q : Str × Value) : Prop := KN p.1 q.1 ∧ VR φ n p.2 q.2
theorem binds_vr {φ : Nat → Addr} {n : Nat} {ps : List Nat} {names : List Str} (hk : All2 KN ps names) : ∀ {xs : List AV} {vs : List Value}, All2 (VR φ n) xs vs → All2 (BR φ n) (ps.zip xs) (names.zip vs) := by
  induction hk with
  | nil => intro xs vs _; rw [List.zip_nil_left, List.zip_nil_left]; exact .nil
  | cons k _ ih =>
    intro xs vs h
    induction h with
    | nil => rw [List.zip_nil_right, List.zip_nil_right]; exact .nil
    | cons a t => rw [List.zip_cons_cons, List.zip_cons_cons]; exact .cons ⟨k, a⟩ (ih t)
theorem all2_app {α β : Type} {R : α → β → Prop} {a b : List α} {c d : List β} (h : All2 R a c) (h' : All2 R b d) : All2 R (a ++ b) (c ++ d) := by
  induction h with
  | nil => exact h'
  | cons x _ ih => exact .cons x ih
theorem binds_at {φ : Nat → Addr} {n : Nat} {c : Nat} {x : Str} (hc : KN c x) {l : List (Nat × AV)} {r : List (Str × Value)} (h : All2 (BR φ n) l r) : match l.lookup c with | some v => ∃ u, r.lookup x = some u ∧ VR φ n v u | none => r.lookup x = none := by
  induction h with
  | nil => rfl
  | @cons p q l r hd _ ih =>
    obtain ⟨k, a⟩ := p
    obtain ⟨k', u⟩ := q
    rw [List.lookup_cons, List.lookup_cons]
    induction e : (c == k) with
    | true => rw [(hc.inj hd.1).mpr (beq_iff_eq.mp e), beq_self_eq_true]; exact ⟨u, rfl, hd.2⟩
    | false => rw [show (x == k') = false from by simpa using fun q => (beq_eq_false_iff_ne.mp e) ((hc.inj hd.1).mp q)]; exact ih
theorem zip_names {α : Type} : ∀ {names : List Str} {xs : List α}, xs.length = names.length → (names.zip xs).map (·.1) = names
  | [], _, _ => by rw [List.zip_nil_left]; rfl
  | _ :: _, [], h => by contradiction
  | _ :: _, _ :: _, h => by rw [List.zip_cons_cons, List.map_cons, zip_names (Nat.succ.inj h)]
theorem lookup_filter {α : Type} {ccs : List Nat} {c : Nat} {v : α} : ∀ {l : List (Nat × α)}, (l.filter fun p => !(ccs.contains p.1)).lookup c = some v → l.lookup c = some v ∧ ccs.contains c = false
  | [], e => by exact no_some9 e
  | (k, a) :: l, e => by
    rw [List.filter_cons] at e
    rw [List.lookup_cons]
    by_cases z : c = k
    · subst z
      induction hk : ccs.contains c with
      | true =>
        rw [hk, if_neg (by decide)] at e
        have := (lookup_filter e).2
        rw [hk] at this; contradiction
      | false =>
        rw [hk, if_pos (by decide), List.lookup_cons, beq_self_eq_true] at e
        rw [beq_self_eq_true]; exact ⟨e, rfl⟩
    · rw [show (c == k) = false from by simpa using z]
      split at e
      · rw [List.lookup_cons, show (c == k) = false from by simpa using z] at e; exact lookup_filter e
      · exact lookup_filter e
theorem bindL_at {kindOf : Str → Option NameKind} {x : Str} : ∀ {binds : List (Str × Value)} {m : Str → Option Value}, (binds.map (·.1)).Nodup → bindL kindOf binds m x = match (if kindOf x = some .local then binds.lookup x else none) with | some v => some v | none => m x
  | [], m, _ => by unfold bindL; split <;> rename_i e <;> split at e <;> first | rfl | cases e
  | (n, v) :: r, m, h => by
    rw [List.map_cons, List.nodup_cons] at h
    unfold bindL
    rw [bindL_at h.2, List.lookup_cons]
    by_cases z : x = n
    · subst z
      rw [beq_self_eq_true, lookup_notin h.1]
      by_cases hk : kindOf x = some .local
      · rw [if_pos hk, if_pos hk, if_pos hk]; dsimp only; rw [if_pos rfl]
      · rw [if_neg hk, if_neg hk, if_neg hk]
    · rw [show (x == n) = false from by simpa using z]
      by_cases hk : kindOf n = some .local
      · rw [if_pos hk]; dsimp only; rw [if_neg z]
      · rw [if_neg hk]
theorem bindC_at {kindOf : Str → Option NameKind} {x : Str} (hx : kindOf x ≠ some .local) : ∀ {binds : List (Str × Value)} {m : Str → Option Value}, (binds.map (·.1)).Nodup → bindC kindOf binds m x = match binds.lookup x with | some v => some v | none => m x
  | [], m, _ => rfl
  | (n, v) :: r, m, h => by
    rw [List.map_cons, List.nodup_cons] at h
    unfold bindC
    rw [bindC_at hx h.2, List.lookup_cons]
    by_cases z : x = n
    · subst z
      rw [beq_self_eq_true, lookup_notin h.1, if_neg hx]
      dsimp only
      rw [if_pos rfl]
    · rw [show (x == n) = false from by simpa using z]
      by_cases hk : kindOf n = some .local
      · rw [if_pos hk]
      · rw [if_neg hk]; dsimp only; rw [if_neg z]
theorem cells_mem {cm : Str → Option Value} {cs : List (Str × Addr)} {cells : List (Addr × Obj)} (Y : CellsAre cm cs cells) {p : Addr × Obj} (hp : p ∈ cells) : ∃ n, (n, p.1) ∈ cs := by
  induction Y with
  | nil => contradiction
  | cons _ _ ih =>
    rcases List.mem_cons.mp hp with rfl | hp
    · exact ⟨_, .head _⟩
    · obtain ⟨n, h⟩ := ih hp; exact ⟨n, .tail _ h⟩
/-- the cells of a call -/
noncomputable def cellsD (b : List (Nat × AV)) : List Nat → Hp → List (Nat × Nat) × Hp
  | [], H => ([], H)
  | c :: cs, H => ((c, (cellsD b cs H).2.next) :: (cellsD b cs H).1, (cellsD b cs H).2.push (.cell (b.lookup c)))
theorem cellsD_ok {P : World} {ks : List (Addr × Obj)} {φ : Nat → Addr} {H : Hp} {news : List (Addr × Obj)} {b : List (Nat × AV)} {binds : List (Str × Value)} {cm : Str → Option Value} (L : LR φ P ks H news) (hb : All2 (BR φ H.next) b binds)
    {cl : List (Str × Addr)} {cells : List (Addr × Obj)} (Y : CellsAre cm cl cells) : (∀ n c, (n, c) ∈ cl → cm n = binds.lookup n) → (cl.Pairwise fun x y => x.2 ≠ y.2) → (∀ n c, (n, c) ∈ cl → ∀ q ∈ news, q.1 ≠ c) → ∀ {ccs : List Nat}, All2 (fun c q => KN c q.1) ccs cl →
    ∃ φ', LR φ' P ks (cellsD b ccs H).2 (cells ++ news) ∧ Ext φ H.next φ' (cellsD b ccs H).2.next ∧ All2 (CR φ' (cellsD b ccs H).2.next) (cellsD b ccs H).1 cl := by
  induction Y with
  | nil => intro _ _ _ ccs hk; cases hk; exact ⟨φ, L, .refl, .nil⟩
  | @cons n c o cs cells hd hY ih =>
    intro h1 h2 h3 ccs hk
    cases hk with
    | @cons k _ kt _ k1 k2 =>
      rw [List.pairwise_cons] at h2
      refine xe13 (ih (fun n' c' hm => h1 n' c' (.tail _ hm)) h2.2 (fun n' c' hm => h3 n' c' (.tail _ hm)) k2) fun φ1 L1 X1 A1 => ?_
      have hv : OR φ1 (cellsD b kt H).2.next P (.cell (b.lookup k)) o := by
        refine ⟨cm n, hd, ?_⟩
        rw [h1 n c (.head _)]
        have z := binds_at k1 hb
        induction e : b.lookup k with
        | none => rfl
        | some v => rw [e] at z; obtain ⟨u, e2, hu⟩ := z; rw [show binds.lookup n = some u from e2]; exact hu.ext X1
      have hfresh : ∀ p ∈ cells ++ news, p.1 ≠ c := fun p hp => by
        rcases List.mem_append.mp hp with hp | hp
        · have := cells_mem hY hp
          refine xe1 (this) fun n' hm => ?_
          exact (h2.1 (n', p.1) hm).symm
        · exact h3 n c (.head _) p hp
      refine ⟨upφ φ1 (cellsD b kt H).2.next c, L1.push hv hfresh, X1.trans .up, .cons ⟨k1, ?_, Nat.lt_succ_self _⟩ (A1.mono fun _ _ h => h.ext .up)⟩
      exact (if_pos rfl : upφ φ1 (cellsD b kt H).2.next c (cellsD b kt H).2.next = c).symm
theorem stays_hide {s : Shared} {news : List (Addr × Obj)} (st : G0.StaysIn s.heap) (h : ∀ q ∈ news, G0.get? q.1 = none) : G0.StaysIn (hideAll s.heap (news.map (·.1))) := fun b o e => hideAll_get _ (st b o e) fun hm => by
  obtain ⟨q, hq, rfl⟩ := List.mem_map.mp hm
  rw [h q hq] at e; exact no_some9 e

end
end Mine
end
-- M12
section
open PySem PySem.W PyProof.Rows PySem.Calls PySem.Spec
set_option Elab.async false
set_option linter.all false
namespace Mine
set_option maxRecDepth 100000

noncomputable def delL (i : Nat) (l : List (Nat × AO)) : List (Nat × AO) := List.rec (motive := fun _ => List (Nat × AO)) [] (fun p _ ih => Bool.rec (p :: ih) ih (Nat.beq i p.1)) l
theorem delL_cons {i : Nat} {p : Nat × AO} {l : List (Nat × AO)} : delL i (p :: l) = if p.1 = i then delL i l else p :: delL i l := by
  show Bool.rec (motive := fun _ => List (Nat × AO)) (p :: delL i l) (delL i l) (Nat.beq i p.1) = _
  induction h : Nat.beq i p.1 with
  | true => rw [if_pos (Nat.eq_of_beq_eq_true h).symm]
  | false => rw [if_neg fun e => Nat.ne_of_beq_eq_false h e.symm]
noncomputable def Hp.del (H : Hp) (i : Nat) : Hp := ⟨delL i H.cells, H.next⟩
theorem delL_sub {i : Nat} : ∀ {l : List (Nat × AO)}, List.Sublist (delL i l) l
  | [] => .slnil
  | p :: l => by
    rw [delL_cons]
    split
    · exact .cons _ delL_sub
    · exact .cons₂ _ delL_sub
theorem all2_del {R : Nat × AO → Addr × Obj → Prop} (i : Nat) : ∀ {l : List (Nat × AO)} {r : List (Addr × Obj)}, All2 R l r → ∃ r', All2 R (delL i l) r' ∧ ∀ q ∈ r', q ∈ r ∧ ∃ p ∈ l, p.1 ≠ i ∧ R p q
 := fun t => by
  induction t with
  | nil => exact ⟨[], .nil, fun _ h => nomatch h⟩
  | @cons p q l r h t ih =>
    refine xe12 (ih) fun r' a b => ?_
    rw [delL_cons]
    split
    · exact ⟨r', a, fun y hy => by obtain ⟨c, z, hz, d⟩ := b y hy; exact ⟨.tail _ c, z, .tail _ hz, d⟩⟩
    · rename_i hp
      refine ⟨q :: r', .cons h a, fun y hy => ?_⟩
      rcases List.mem_cons.mp hy with rfl | hy
      · exact ⟨.head _, p, .head _, hp, h⟩
      · obtain ⟨c, z, hz, d⟩ := b y hy; exact ⟨.tail _ c, z, .tail _ hz, d⟩
theorem LR0.del {φ : Nat → Addr} {P : World} {ks : List (Addr × Obj)} {H : Hp} {news : List (Addr × Obj)} (L : LR0 φ P ks H news) {i : Nat} {a : AO} (e : H.get i = some a) :
    ∃ news', LR0 φ P ks (H.del i) news' ∧ ∀ q ∈ news', q ∈ news ∧ q.1 ≠ φ i := by
  obtain ⟨led, rfl, h⟩ := L.all
  refine xe12 (all2_del i h) fun r' h1 h2 => ?_
  have sub : ∀ p ∈ (H.del i).cells, p ∈ H.cells := fun p hp => delL_sub.subset hp
  refine ⟨r' ++ ks, ⟨⟨r', rfl, h1⟩, fun p hp => L.off p (sub p hp), fun p hp => L.lt p (sub p hp), fun p hp q hq => L.inj p (sub p hp) q (sub q hq), (delL_sub.map _).nodup L.nd⟩, fun q hq => ?_⟩
  rcases List.mem_append.mp hq with hq | hq
  · obtain ⟨h3, p, hp, hn, hr⟩ := h2 q hq
    refine ⟨List.mem_append_left _ h3, fun e' => hn ?_⟩
    exact L.inj p hp (i, a) (lookup_lt e) (hr.1.symm.trans e')
  · exact ⟨List.mem_append_right _ hq, L.off _ (lookup_lt e) q hq⟩

theorem LR.del {φ : Nat → Addr} {P : World} {ks : List (Addr × Obj)} {H : Hp} {news : List (Addr × Obj)} (L : LR φ P ks H news) {i : Nat} {a : AO} (e : H.get i = some a) :
    ∃ news', LR φ P ks (H.del i) news' ∧ ∀ q ∈ news', q ∈ news ∧ q.1 ≠ φ i := by
  refine xe1 (L.ex) fun sat L => ?_
  refine xe12 (L.b.del e) fun n' h1 h2 => ?_
  exact ⟨n', ⟨sat, h1, L.like, fun p hp o ho c hr => L.ref p (delL_sub.subset hp) o (h2 _ ho).1 c hr⟩, h2⟩
section
variable {w : World} {p : Program} {loose : List Str} {mean : ExcName → Option Value} {mg mb : Str → Option Value} {G0 : Heap} {lv : Nat} {st : Sta}

theorem Rel.hset {a : Act} {φ : Nat → Addr} {F : Frm} {H : Hp} {s : Shared} {g : Heap} {m : Str → Option Value} {news : List (Addr × Obj)} (r : Rel w a φ F H s g m news) {i : Nat} {ao ao' : AO} (e : H.get i = some ao) {h' : Heap} {o' : Obj} {k : Nat}
    (hs : ∀ b o, b ≠ φ i → s.heap.get? b = some o → h'.get? b = some o) (ho : h'.get? (φ i) = some o') (hr : OR φ H.next w ao' o') (hk : noCode ao' = true := by rfl) : RelX w a φ F (H.set i ao') { s with heap := h', toks := k } := by
  refine xe13 (r.lr.upd e) fun ob _ hm hup => ?_
  refine xe12 (hup hr hk) fun n1 u1 l1 => ?_
  refine xa3 (r.nw _ hm) fun _ hL hg => ?_
  refine ⟨g, m, n1, ⟨⟨r.fr.ns.at' fun o e => hs _ o (fun q => hL q.symm) e, fun b o e => hs b o (fun q => ?_) (r.fr.keep b o e), r.fr.above⟩, fun q hq => ?_, l1, r.loc, r.cl, r.turn, r.same⟩⟩
  · subst q; rw [hg] at e; exact no_some9 e
  · rcases upd_mem u1 q hq with rfl | ⟨h1, h2⟩
    · exact ⟨ho, hL, hg⟩
    · exact ⟨hs _ _ h2 (r.nw q h1).1, (r.nw q h1).2⟩
theorem Rel.hdel {a : Act} {φ : Nat → Addr} {F : Frm} {H : Hp} {s : Shared} {g : Heap} {m : Str → Option Value} {news : List (Addr × Obj)} (r : Rel w a φ F H s g m news) {i : Nat} {ao : AO} (e : H.get i = some ao) {h' : Heap} {k : Nat}
    (hs : ∀ b o, b ≠ φ i → s.heap.get? b = some o → h'.get? b = some o) : RelX w a φ F (H.del i) { s with heap := h', toks := k } := by
  refine xe13 (r.lr.upd e) fun ob _ hm hup => ?_
  refine xe12 (r.lr.del e) fun n1 l1 h1 => ?_
  refine xa3 (r.nw _ hm) fun _ hL hg => ?_
  refine ⟨g, m, n1, ⟨⟨r.fr.ns.at' fun o e => hs _ o (fun q => hL q.symm) e, fun b o e => hs b o (fun q => ?_) (r.fr.keep b o e), r.fr.above⟩, fun q hq => ?_, l1, r.loc, r.cl, r.turn, r.same⟩⟩
  · subst q; rw [hg] at e; exact no_some9 e
  · refine xa2 (h1 q hq) fun h2 h3 => ?_
    exact ⟨hs _ _ h3 (r.nw q h2).1, (r.nw q h2).2⟩
/-- an object laid at the heap's end -/
theorem Rel.hpush {a : Act} {φ : Nat → Addr} {F : Frm} {H : Hp} {s : Shared} {g : Heap} {m : Str → Option Value} {news : List (Addr × Obj)} (r : Rel w a φ F H s g m news) {ob : Obj} {ao : AO} {k : Nat} (hf : ob.isFreed = false) (ho : OR φ H.next w ao ob) (hk : noCode ao = true := by rfl) :
    RelX w a (upφ φ H.next s.heap.objs.size) F (H.push ao) { s with heap := s.heap.push ob, toks := k } := by
  refine r.push (r.fr.push _) (fun q hq => ?_) (fun q hq e => ?_) ho hk
  · rcases List.mem_cons.mp hq with rfl | hq
    · exact ⟨Heap.get?_push_size _ hf, fun e => Nat.lt_irrefl _ (show s.heap.objs.size < s.heap.objs.size by have := r.fr.ns.lt; rw [← e] at this; exact this), next_is_new r.fr⟩
    · exact ⟨Heap.get?_push_of_some _ (r.nw q hq).1, (r.nw q hq).2⟩
  · have := Heap.lt_size (r.nw q hq).1
    rw [e] at this; exact Nat.lt_irrefl _ this

/-- iter(x) -/
noncomputable def iterD : AV → Hp → Res AV
  | .ref j, H => (match H.range j with
    | some (a, b) => if (-1000000 ≤ a ∧ a ≤ 1000000) ∧ -1000000 ≤ b ∧ b ≤ 1000000 then .ok (.ref H.next) (H.push (.riter a (if a < b then b - a else 0))) else .stuck
    | none => (match H.list j with
      | some _ => .ok (.ref H.next) (H.push (.liter j 0))
      | none => (match H.tup j with
        | some _ => .ok (.ref H.next) (H.push (.titer j 0))
        | none => .stuck)))
  | _, _ => .stuck
theorem range_small {a b : Int} (h : (-1000000 ≤ a ∧ a ≤ 1000000) ∧ -1000000 ≤ b ∧ b ≤ 1000000) : Builtin.Range.small a b 1 = true := by
  unfold Builtin.Range.small
  rw [rangeSize_one]
  obtain ⟨⟨h1, h2⟩, h3, h4⟩ := h
  have f : ∀ x : Int, -3000000 ≤ x → x ≤ 3000000 → Builtin.Range.rangeFitsLong x = true := fun x h h' => by
    unfold Builtin.Range.rangeFitsLong
    rw [Bool.and_eq_true, decide_eq_true_iff, decide_eq_true_iff]
    lia
  rw [f a (by lia) (by lia), f b (by lia) (by lia), f 1 (by lia) (by lia), f (if a < b then b - a else 0) (by split <;> lia) (by split <;> lia)]
  simp only [show (1 : Int) > 0 by decide, if_true]
  rw [f (b + (1 - 1)) (by lia) (by lia)]
  simp
theorem O_iter : SO1 w G0 lv st pyIter iterD := fun a φ F H s Qc Ec x v ok R hx h => by
  unfold iterD at h
  refine xe3 (R) fun g m news r => ?_
  split at h
  · rename_i j
    obtain ⟨hj, rfl⟩ := hx
    split at h
    · rename_i x y e1
      refine xe12 (r.lr.get (Hp.range_eq e1)) fun ob hm ho => ?_
      split at h
      · rename_i hz
        obtain ⟨t, u, v, rfl⟩ := ho
        have hn : Builtin.Range.rangeSize x y 1 = if x < y then y - x else 0 := rangeSize_one x y
        refine wpAny_pyIter_range (r.nw _ hm).1 (range_small hz) (h _ _ (r.hpush (k := s.toks) rfl ?_) .up _ vr_new)
        show _ = _
        rw [hn]
      · exact h.elim
    · split at h
      · rename_i vs e1
        obtain ⟨ob, hm, ws, c, rfl, hw⟩ := r.lr.get (Hp.list_eq e1)
        exact wpAny_pyIter_list (r.nw.isList hm) (h _ _ (r.hpush (k := s.toks) rfl ⟨hj, rfl, rfl⟩) .up _ vr_new)
      · split at h
        · rename_i vs e1
          obtain ⟨ob, hm, ws, c, rfl, hw⟩ := r.lr.get (Hp.tup_eq e1)
          exact wpAny_pyIter_tuple (r.nw.isTup hm) (h _ _ (r.hpush (k := s.toks) rfl ⟨hj, rfl, rfl⟩) .up _ vr_new)
        · exact h.elim
  · exact h.elim

noncomputable def AO.iter? : AO → Option (Option (Int × Int) × Nat × Nat × Bool)
  | .riter x n => some (some (x, n), 0, 0, true)
  | .liter l k => some (none, l, k, true)
  | .titer l k => some (none, l, k, false)
  | _ => none
theorem AO.iter?_eq {o : AO} {y : Option (Int × Int)} {l k : Nat} {b : Bool} (h : o.iter? = some (y, l, k, b)) : match y with | some (x, n) => o = .riter x n | none => if b then o = .liter l k else o = .titer l k := by
  unfold AO.iter? at h
  split at h
  · cases h; rfl
  · cases h; rfl
  · cases h; rfl
  · exact no_some9 h
noncomputable def Hp.itm (H : Hp) (l : Nat) (b : Bool) : Option (List AV) := if b then H.list l else H.tup l
noncomputable def mkIt (l k : Nat) (b : Bool) : AO := if b then .liter l k else .titer l k
noncomputable def nextD (i : Nat) (H : Hp) : Option (Option AV × Hp) := match (H.get i).bind AO.iter? with
  | some (some (x, n), _) => if n ≤ 0 then some (none, H.del i) else some (some (.int x), H.set i (.riter (x + 1) (n - 1)))
  | some (none, l, k, b) => (match H.itm l b with
    | some vs => (match vs[k]? with | some v => some (some v, H.set i (mkIt l (k + 1) b)) | none => some (none, H.del i))
    | none => none)
  | none => none
theorem all2_none {α β : Type} {R : α → β → Prop} {l : List α} {r : List β} (h : All2 R l r) {i : Nat} (e : l[i]? = none) : r[i]? = none := by
  rw [List.getElem?_eq_none_iff] at e ⊢; rw [← h.length]; exact e
theorem O_next {a : Act} {φ : Nat → Addr} {F : Frm} {H : Hp} {s : Shared} {Q : Option Value → Shared → Prop} {E : Value → Shared → Prop} {i : Nat} (hnh : st.nh = true) (ok : a.Ok st lv G0) (R : RelX w a φ F H s)
    (h : match nextD i H with
      | some (none, H') => ∀ s', RelX w a φ F H' s' → Q none s'
      | some (some v, H') => ∀ s' u, RelX w a φ F H' s' → VR φ H'.next v u → Q (some u) s'
      | none => False) : wpAny (model PR w) a.A (pyNext (.ref (φ i))) Q E s := by
  refine xe3 (R) fun g m news r => ?_
  induction e0 : (H.get i).bind AO.iter? with
  | none => unfold nextD at h; rw [e0] at h; exact h.elim
  | some y =>
    refine xe12 (Option.bind_eq_some_iff.mp e0) fun o e1 e2 => ?_
    obtain ⟨y, l, k, b⟩ := y
    have e3 := AO.iter?_eq e2
    refine xe12 (r.lr.get e1) fun ob hm ho => ?_
    have hget := (r.nw _ hm).1
    unfold nextD at h
    rw [e0] at h
    induction y with
    | some y =>
      obtain ⟨x, n⟩ := y
      dsimp only at h e3
      subst e3
      obtain rfl := ho
      by_cases hn : n ≤ 0
      · rw [if_pos hn] at h
        exact wpAny_pyNext_range_end (ok.handled hnh) hget hn fun h' he => h _ (r.hdel (k := s.toks) e1 fun b o hb e => he b o hb e)
      · rw [if_neg hn] at h
        exact wpAny_pyNext_range_item hget (by lia) fun h' hit hs => h _ _ (r.hset (k := s.toks + 1) e1 (fun b o hb e => hs.extBut b o hb e) hit rfl) ⟨_, rfl⟩
    | none =>
      dsimp only at h e3
      induction e4 : H.itm l b with
      | none => rw [e4] at h; exact h.elim
      | some vs =>
        rw [e4] at h
        dsimp only at h
        induction b with
        | true =>
          rw [if_pos rfl] at e3
          subst e3
          refine xa3 (ho) fun hl hc hd => ?_
          obtain ⟨ob2, hm2, ws, c, rfl, hw⟩ := r.lr.get (Hp.list_eq e4)
          induction e3 : vs[k]? with
          | none =>
            rw [e3] at h
            exact wpAny_pyNext_list_end (ok.handled hnh) ⟨ob, hget, hc, hd⟩ (r.nw.isList hm2) (by simpa using all2_none hw e3) fun h' he => h _ (r.hdel (k := s.toks) e1 fun b o hb e => he b o hb e)
          | some v =>
            rw [e3] at h
            refine xe12 (all2_get hw e3) fun u e4 hu => ?_
            refine wpAny_pyNext_list_item ⟨ob, hget, hc, hd⟩ (r.nw.isList hm2) (by simpa using e4) fun h' hit hs => ?_
            refine xe13 (hit) fun o' ho' hc' hd' => ?_
            exact h _ _ (r.hset (k := s.toks) e1 (fun b o hb e => hs.extBut b o hb e) ho' ⟨hl, hc', hd'⟩) hu
        | false =>
          rw [if_neg (by decide)] at e3
          subst e3
          refine xa3 (ho) fun hl hc hd => ?_
          obtain ⟨ob2, hm2, ws, c, rfl, hw⟩ := r.lr.get (Hp.tup_eq e4)
          induction e3 : vs[k]? with
          | none =>
            rw [e3] at h
            exact wpAny_pyNext_tuple_end (ok.handled hnh) ⟨ob, hget, hc, hd⟩ (r.nw.isTup hm2) (by simpa using all2_none hw e3) fun h' he => h _ (r.hdel (k := s.toks) e1 fun b o hb e => he b o hb e)
          | some v =>
            rw [e3] at h
            refine xe12 (all2_get hw e3) fun u e4 hu => ?_
            refine wpAny_pyNext_tuple_item ⟨ob, hget, hc, hd⟩ (r.nw.isTup hm2) (by simpa using e4) fun h' hit hs => ?_
            refine xe13 (hit) fun o' ho' hc' hd' => ?_
            exact h _ _ (r.hset (k := s.toks) e1 (fun b o hb e => hs.extBut b o hb e) ho' ⟨hl, hc', hd'⟩) hu

noncomputable def RS.nxl (r : RS) (k : Frm → Hp → RS) : RS := RS.rec (motive := fun _ => RS) (fun F H => k F H) (fun v F H => .ret v F H) (fun _ _ _ => .stuck) .stuck (fun p _ ih => .guard p ih) r
noncomputable def loopD (f : AV → Frm → Hp → Option (Frm × Hp)) (D : Frm → Hp → RS) (i : Nat) : Nat → Frm → Hp → RS
  | 0, _, _ => .stuck
  | k + 1, F, H => match nextD i H with
    | none => .stuck
    | some (none, H') => .nx F H'
    | some (some v, H') => match f v F H' with
      | none => .stuck
      | some y => (D y.1 y.2).nxl fun F2 H2 => loopD f D i k F2 H2
theorem nextD_next {i : Nat} {H H' : Hp} {v : Option AV} (h : nextD i H = some (v, H')) : H'.next = H.next := by
  unfold nextD at h
  split at h
  · split at h <;> (cases h; rfl)
  · split at h
    · split at h <;> (cases h; rfl)
    · exact no_some9 h
  · exact no_some9 h
theorem T_for {x : Str} {px : Pos} {iter : Expr} {body : List Stmt} {pos : Pos} {f : AV → Frm → Hp → Option (Frm × Hp)} {De : Frm → Hp → Res AV} {D : Frm → Hp → RS} (hnh : st.nh = true) (hn : SN w G0 lv st x f) (h1 : SE w G0 lv st iter De) (h2 : SSs w G0 lv st body D)
    (hs : ∀ (a : Act) (x : Value), foldedSetIterable iter (a.env st) x = pure x) (ht : ∀ u v, letOwnedTupleGo (.Name x px) u v = pure ()) :
    SS w G0 lv st (.For (.Name x px) iter body [] pos) (fun F H => (De F H).toS F fun v H1 => (iterD v H1).toS F fun it H2 => match it with | .ref i => loopD f D i 100 F H2 | _ => .stuck) := fun a φ F H s Q E ok R hE h => by
  refine wpAny_For (h1 a φ F H s _ E ok R (PS.ofE h fun v φ1 H1 s1 R1 X1 h' u hu => O_iter a φ1 F H1 s1 _ E v u ok R1 hu (PS.ofE h' fun it φ2 H2 s2 R2 X2 h'' u2 hu2 => ?_))) (hs a)
  induction it <;> try exact h''.elim
  rename_i i
  obtain ⟨hi, rfl⟩ := hu2
  refine codeAny_forLoop (fun k s' => ∃ φ' F' H', RelX w a φ' F' H' s' ∧ φ' i = φ2 i ∧ i < H'.next ∧ PS w a φ' H'.next (loopD f D i k F' H') Q E) ?_ 100 ⟨φ2, F, H2, R2, rfl, hi, h''⟩ (ht _)
  rintro k s' ⟨φ', F', H', R', e', hi', hh⟩
  induction k with
  | zero => exact hh.elim
  | succ k =>
    unfold loopD at hh
    rw [← e']
    refine O_next (i := i) hnh ok R' ?_
    induction e1 : nextD i H' with
    | none => rw [e1] at hh; exact hh.elim
    | some y =>
      rw [e1] at hh
      obtain ⟨v, H3⟩ := y
      have hnx := nextD_next e1
      induction v with
      | none => exact fun s3 R3 => wpAny_execs_nil (hh φ' s3 R3 (by rw [hnx]; exact .refl))
      | some v =>
        dsimp only at hh ⊢
        intro s3 u R3 hu
        refine wpAny_assign_Name (hn a φ' F' H3 s3 _ _ v u ok R3 hu ?_)
        induction e2 : f v F' H3 with
        | none => rw [e2] at hh; exact hh.elim
        | some y =>
          rw [e2] at hh
          dsimp only at hh ⊢
          intro φ4 s4 R4 X4
          refine wpAny_mono (E := fun _ _ => False) (h2 a φ4 y.1 y.2 s4 _ _ ok R4 OwnE.never ?_) (fun _ _ z => z) (fun _ _ z => z.elim)
          generalize D y.1 y.2 = rr at hh
          induction rr with
          | guard p r ih => exact ⟨hh.1, ih hh.2⟩
          | stuck => exact hh
          | exc _ _ _ => exact hh.elim
          | ret v' F5 H5 =>
            exact fun φ5 s5 u5 R5 X5 hu5 => hh φ5 s5 u5 R5 ((hnx ▸ X4).trans X5) hu5
          | nx F5 H5 =>
            exact fun φ5 s5 R5 X5 => ⟨k, Nat.lt_succ_self _, φ5, F5, H5, R5, (X4.trans X5).2 i (by rw [hnx]; exact hi'), Nat.lt_of_lt_of_le hi' (hnx ▸ (X4.trans X5).1), PS.weak hh ((hnx ▸ X4).trans X5)⟩
end
end Mine
end
-- M13
section
open PySem PySem.W PyProof.Rows PySem.Calls PySem.Spec
set_option Elab.async false
set_option linter.all false
namespace Mine
set_option maxRecDepth 100000
section
variable {w : World} {p : Program} {loose : List Str} {mean : ExcName → Option Value} {mg mb : Str → Option Value} {G0 : Heap} {lv : Nat} {st : Sta}

noncomputable abbrev VX := AV → Frm → Hp → Option (Frm × Hp)
/-- a store of a value -/
noncomputable def SV (w : World) (G0 : Heap) (lv : Nat) (st : Sta) (t : Env → Value → Sem Unit) (f : VX) : Prop :=
  ∀ (a : Act) (φ : Nat → Addr) (F : Frm) (H : Hp) (s : Shared) (Q : Unit → Shared → Prop) (E : Value → Shared → Prop) (v : AV) (u : Value), a.Ok st lv G0 → RelX w a φ F H s → VR φ H.next v u →
    (match f v F H with | some y => ∀ φ' s', RelX w a φ' y.1 y.2 s' → Ext φ H.next φ' y.2.next → Q () s' | none => False) → wpAny (model PR w) a.A (t (a.env st) u) Q E s
theorem V_bind {x : Str} {f : VX} (hn : SN w G0 lv st x f) : SV w G0 lv st (fun env v => bindName env x v) f := fun a φ F H s Q E v u ok R hu h => bindName_ (hn a φ F H s Q E v u ok R hu h)
theorem V_name {x : Str} {pos : Pos} {f : VX} (hn : SN w G0 lv st x f) : SV w G0 lv st (fun env v => assign (.Name x pos) env v) f := fun a φ F H s Q E v u ok R hu h => wpAny_assign_Name (hn a φ F H s Q E v u ok R hu h)
theorem assign_Sub_ {M : Model} {A : Around} {E : Value → Shared → Prop} {s : Shared} {env : Env} {o i : Expr} {pos : Pos} {v : Value} {Q : Unit → Shared → Prop}
    (h : wpAny M A (eval o env) (fun ov s₂ => wpAny M A (eval i env) (fun iv s₃ => wpAny M A (setItem ov iv v) (fun _ => Q ()) E s₃) E s₂) E s) : wpAny M A (assign (.Subscript o i pos) env v) Q E s := by
  rw [assign_Subscript]
  exact wpAny_bind (wpAny_holding (wpAny_mono h (fun ov s₂ h₂ => wpAny_bind (wpAny_holding (wpAny_mono h₂ (fun iv s₃ h₃ => wpAny_bind (wpAny_standAt (wpAny_bind (wpAny_holding (wpAny_mono h₃ (fun _ s₄ h₄ => wpAny_releaseD h₄) fun _ _ h => h))))) fun _ _ h => h))) fun _ _ h => h))
/-- from a result to a store's end -/
noncomputable def Res.toV {α : Type} (r : Res α) (k : α → Hp → Option (Frm × Hp)) : Option (Frm × Hp) := match r with
  | .ok x H => k x H
  | _ => none
noncomputable abbrev PV (w : World) (a : Act) (φ : Nat → Addr) (n : Nat) (r : Option (Frm × Hp)) (Q : Unit → Shared → Prop) : Prop := match r with | some y => ∀ φ' s', RelX w a φ' y.1 y.2 s' → Ext φ n φ' y.2.next → Q () s' | none => False
theorem PV.weak {a : Act} {φ φ' : Nat → Addr} {n n' : Nat} {r : Option (Frm × Hp)} {Q : Unit → Shared → Prop} (h : PV w a φ n r Q) (X : Ext φ n φ' n') : PV w a φ' n' r Q := by
  induction r with
  | none => exact h
  | some y => exact fun φ2 s2 R2 X2 => h φ2 s2 R2 (X.trans X2)
theorem PV.ofE {a : Act} {φ : Nat → Addr} {n : Nat} {F : Frm} {α : Type} {r : Res α} {k : α → Hp → Option (Frm × Hp)} {Q : Unit → Shared → Prop} {E : Value → Shared → Prop} {K' : α → (Nat → Addr) → Hp → Shared → Prop}
    (h : PV w a φ n (r.toV k) Q) (kk : ∀ x φ' H s', RelX w a φ' F H s' → Ext φ n φ' H.next → PV w a φ' H.next (k x H) Q → K' x φ' H s') : PO w a φ n F r K' E := by
  induction r with
  | ok x H => exact fun φ' s' R X => kk _ _ _ _ R X (PV.weak h X)
  | exc e H => exact h.elim
  | stuck => exact h
  | guard p r => exact h.elim
noncomputable def vSub (D1 D2 : Frm → Hp → Res AV) : VX := fun v F H => (D1 F H).toV fun y H2 => (D2 F H2).toV fun z H3 => (setI y z v H3).toV fun _ H4 => some (F, H4)
theorem V_sub {o i : Expr} {pos : Pos} {D1 D2 : Frm → Hp → Res AV} (h1 : SE w G0 lv st o D1) (h2 : SE w G0 lv st i D2) : SV w G0 lv st (fun env v => assign (.Subscript o i pos) env v) (vSub D1 D2) := fun a φ F H s Q E v u ok R hu h =>
  assign_Sub_ (h1 a φ F H s _ E ok R (PV.ofE (k := fun y H2 => (D2 F H2).toV fun z H3 => (setI y z v H3).toV fun _ H4 => some (F, H4)) h fun y φ2 H2 s2 R2 X2 h' t ht => h2 a φ2 F H2 s2 _ E ok R2 (PV.ofE h' fun z φ3 H3 s3 R3 X3 h'' r hr =>
    O_setI a φ3 F H3 s3 _ E y z v t r u ok R3 (ht.ext X3) hr ((hu.ext X2).ext X3) (PV.ofE h'' fun _ φ4 H4 s4 R4 X4 h4 => h4 φ4 s4 R4 .refl))))
/-- stores in a row -/
noncomputable def SVs (w : World) (G0 : Heap) (lv : Nat) (st : Sta) (t : Env → List (Value → Sem Unit)) (f : List AV → Frm → Hp → Option (Frm × Hp)) : Prop :=
  ∀ (a : Act) (φ : Nat → Addr) (F : Frm) (H : Hp) (s : Shared) (Q : Unit → Shared → Prop) (E : Value → Shared → Prop) (v : List AV) (u : List Value), a.Ok st lv G0 → RelX w a φ F H s → All2 (VR φ H.next) v u →
    PV w a φ H.next (f v F H) Q → wpAny (model PR w) a.A (assignInOrder (t (a.env st)) u) Q E s
noncomputable def vN : List AV → Frm → Hp → Option (Frm × Hp)
  | [], F, H => some (F, H)
  | _, _, _ => none
noncomputable def vC (f : VX) (g : List AV → Frm → Hp → Option (Frm × Hp)) : List AV → Frm → Hp → Option (Frm × Hp)
  | v :: vs, F, H => match f v F H with | some y => g vs y.1 y.2 | none => none
  | [], _, _ => none
theorem V_nil : SVs w G0 lv st (fun _ => []) vN := fun a φ F H s Q E v u ok R hu h => by
  induction hu with
  | nil => exact assignInOrder_nil (h φ s R .refl)
  | cons _ _ => exact h.elim
theorem V_cons {t : Env → Value → Sem Unit} {ts : Env → List (Value → Sem Unit)} {f : VX} {g} (h1 : SV w G0 lv st t f) (h2 : SVs w G0 lv st ts g) : SVs w G0 lv st (fun env => t env :: ts env) (vC f g) := fun a φ F H s Q E v u ok R hu h => by
  cases hu with
  | nil => exact h.elim
  | cons x y =>
    rename_i v0 u0 vs us
    refine assignInOrder_cons (h1 a φ F H s _ E _ _ ok R x ?_)
    replace h : PV w a φ H.next (match f v0 F H with | some y => g vs y.1 y.2 | none => none) Q := h
    induction e : f v0 F H with
    | none => rw [e] at h; exact h
    | some z =>
      rw [e] at h
      exact fun φ2 s2 R2 X2 => h2 a φ2 z.1 z.2 s2 Q E _ _ ok R2 (y.mono fun _ _ q => q.ext X2) (PV.weak h X2)
/-- a tuple is taken apart -/
noncomputable def unT (n : Nat) (v : AV) (H : Hp) : Option (List AV) := match v with
  | .ref i => (match H.tup i with
    | some vs => if vs.length = n then some vs else none
    | none => none)
  | _ => none
theorem unT_some {n : Nat} {v : AV} {H : Hp} {vs} (h : unT n v H = some vs) : ∃ i, v = .ref i ∧ H.get i = some (.tup vs) ∧ vs.length = n := by
  unfold unT at h
  split at h
  · split at h
    · rename_i e
      split at h
      · rename_i hl; obtain rfl := Option.some.inj h; exact ⟨_, rfl, Hp.tup_eq e, hl⟩
      · exact no_some9 h
    · exact no_some9 h
  · exact no_some9 h
noncomputable def tUnp (n : Nat) (f : List AV → Frm → Hp → Option (Frm × Hp)) (D : Frm → Hp → Res AV) : Frm → Hp → RS := fun F H => (D F H).toS F fun v H1 => match unT n v H1 with
  | some vs => (match f vs F H1 with | some y => .nx y.1 y.2 | none => .stuck)
  | none => .stuck
noncomputable def tSwp (n : Nat) (f : List AV → Frm → Hp → Option (Frm × Hp)) (D : Frm → Hp → Res AV) : Frm → Hp → RS := fun F H => (D F H).toS F fun v H1 => match unT n v H1 with
  | some vs => (match f vs.reverse F H1 with | some y => .nx y.1 y.2 | none => .stuck)
  | none => .stuck
theorem all2_rev {α β : Type} {R : α → β → Prop} {l : List α} {r : List β} (h : All2 R l r) : All2 R l.reverse r.reverse := by
  have app : ∀ {l1 : List α} {r1 : List β} {l2 : List α} {r2 : List β}, All2 R l1 r1 → All2 R l2 r2 → All2 R (l1 ++ l2) (r1 ++ r2) := by
    intro l1 r1 l2 r2 a b
    induction a with
    | nil => exact b
    | cons x _ ih => exact .cons x ih
  induction h with
  | nil => exact .nil
  | cons x _ ih => rw [List.reverse_cons, List.reverse_cons]; exact app ih (.cons x .nil)
theorem PSofV {a : Act} {φ : Nat → Addr} {n : Nat} {r : Option (Frm × Hp)} {Q : Flow → Shared → Prop} {E : Value → Shared → Prop} (h : PS w a φ n (match r with | some y => .nx y.1 y.2 | none => .stuck) Q E) : PV w a φ n r (fun _ => Q .next) := by
  induction r with
  | none => exact h
  | some y => exact h
theorem T_unp {elts : List Expr} {k : Nat} {tpos pos : Pos} {value : Expr} {n : Nat} {ts : Env → List (Value → Sem Unit)} {f} {D : Frm → Hp → Res AV} (hnh : st.nh = true) (h1 : SE w G0 lv st value D) (h2 : SVs w G0 lv st ts f)
    (e1 : ∀ env : Env, assignEach elts env = (ts env).map fun t => (false, t)) (e2 : ∀ env : Env, (ts env).length = n)
    (hs : ∀ a : Act, swapsWithSole [.Tuple elts k tpos] value pos.line (a.env st) = pure false) (hw : ∀ a : Act, swappedStores [.Tuple elts k tpos] value (a.env st) = pure none) :
    SS w G0 lv st (.Assign [.Tuple elts k tpos] value pos) (tUnp n f D) := fun a φ F H s Q E ok R hE h =>
  Assign_Tuple (h1 a φ F H s _ E ok R (PS.ofE (k := fun v H1 => match unT n v H1 with | some vs => (match f vs F H1 with | some y => .nx y.1 y.2 | none => .stuck) | none => .stuck) h fun v φ1 H1 s1 R1 X1 h' u hu => by
    induction e3 : unT n v H1 with
    | none => rw [e3] at h'; exact h'.elim
    | some vs =>
      rw [e3] at h'
      obtain ⟨i, rfl, e4, hl⟩ := unT_some e3
      obtain ⟨hi, rfl⟩ := hu
      refine xe3 (R1) fun g m news r => ?_
      obtain ⟨ob, hm, ws, c, rfl, hws⟩ := r.lr.get e4
      refine unpackN_ r.fr r.nw (r.nw.isTup hm) (ok.handled hnh) ?_ ?_ (fun h2' F' N' => ?_)
      · rw [e1, List.length_map, e2, List.size_toArray, ← hws.length, hl]
      · rw [e1, List.findIdx?_eq_none_iff]
        intro q hq
        obtain ⟨t, _, rfl⟩ := List.mem_map.mp hq
        rfl
      · rw [e1, List.map_map, show (Prod.snd ∘ fun t : Value → Sem Unit => (false, t)) = id from rfl, List.map_id]
        exact h2 a φ1 F H1 _ _ E vs ws ok ⟨g, m, news, ⟨F', N', r.lr, r.loc, r.cl, r.turn, r.same⟩⟩ hws (PSofV h'))) (hs a) (hw a)
theorem T_swp {elts : List Expr} {k : Nat} {tpos pos : Pos} {value : Expr} {names : List Str} {ts : Env → List (Value → Sem Unit)} {f} {D : Frm → Hp → Res AV} (hnh : st.nh = true) (h1 : SE w G0 lv st value D) (h2 : SVs w G0 lv st ts f)
    (e1 : ∀ env : Env, (names.reverse.map fun n => bindName env n) = ts env)
    (hs : ∀ a : Act, swapsWithSole [.Tuple elts k tpos] value pos.line (a.env st) = pure false) (hw : ∀ a : Act, swappedStores [.Tuple elts k tpos] value (a.env st) = pure (some names)) :
    SS w G0 lv st (.Assign [.Tuple elts k tpos] value pos) (tSwp names.length f D) := fun a φ F H s Q E ok R hE h =>
  Assign_Tuple_swapped (h1 a φ F H s _ E ok R (PS.ofE (k := fun v H1 => match unT names.length v H1 with | some vs => (match f vs.reverse F H1 with | some y => .nx y.1 y.2 | none => .stuck) | none => .stuck) h fun v φ1 H1 s1 R1 X1 h' u hu => by
    induction e3 : unT names.length v H1 with
    | none => rw [e3] at h'; exact h'.elim
    | some vs =>
      rw [e3] at h'
      obtain ⟨i, rfl, e4, hl⟩ := unT_some e3
      obtain ⟨hi, rfl⟩ := hu
      refine xe3 (R1) fun g m news r => ?_
      obtain ⟨ob, hm, ws, c, rfl, hws⟩ := r.lr.get e4
      refine unpackItemsN_ r.fr r.nw (r.nw.isTup hm) (ok.handled hnh) ?_ (fun h2' F' N' => ?_)
      · rw [List.size_toArray, ← hws.length, hl]
      · rw [e1]
        exact h2 a φ1 F H1 _ _ E vs.reverse ws.reverse ok ⟨g, m, news, ⟨F', N', r.lr, r.loc, r.cl, r.turn, r.same⟩⟩ (all2_rev hws) (PSofV h'))) (hs a) (hw a)
end
end Mine
end
-- M14
section
open PySem PySem.W PyProof.Rows PySem.Calls PySem.Spec
set_option Elab.async false
set_option linter.all false
namespace Mine
set_option maxRecDepth 100000

noncomputable def eqP : AV → AV → Option Bool
  | .none, .none => some true
  | .bool a, .bool b => some (a == b)
  | .int a, .int b => some (a == b)
  | .str a, .str b => some (a == b)
  | .none, .int _ => some false
  | .int _, .none => some false
  | _, _ => none
noncomputable def eqL (f : AV → AV → Option Bool) : List AV → List AV → Option Bool
  | x :: xs, y :: ys => match f x y, eqL f xs ys with | some a, some b => some (a && b) | _, _ => none
  | _, _ => some true
noncomputable def rcS (f : AV → AV → Option Bool) (H : Hp) (i j : Nat) : Option Bool := match H.tup i with
  | some xs => (match H.tup j with
    | some ys => (match eqL f xs ys with | some b => some (b && (xs.length == ys.length)) | none => none)
    | none => none)
  | none => (match H.list i with
    | some xs => (match H.list j with
      | some ys => if xs.length = ys.length then eqL f xs ys else some false
      | none => none)
    | none => none)
noncomputable def eqA (H : Hp) : Nat → AV → AV → Option Bool
  | 0, x, y => eqP x y
  | n + 1, x, y => match x, y with
    | .ref i, .ref j => if i = j then some true else rcS (eqA H n) H i j
    | x, y => eqP x y
noncomputable def opEq (b : Bool) : AV → AV → Hp → Res AV
  | .ref i, .ref j, H => (match rcS (eqA H 4) H i j with | some r => .ok (.bool (r == b)) H | none => .stuck)
  | x, y, H => (match eqP x y with | some r => .ok (.bool (r == b)) H | none => .stuck)
section
variable {w : World} {p : Program} {loose : List Str} {mean : ExcName → Option Value} {mg mb : Str → Option Value} {G0 : Heap} {lv : Nat} {st : Sta}

theorem eqP_vr {φ : Nat → Addr} {n : Nat} {x y : AV} {b : Bool} {Q : Value → Value → Bool → Prop} (h : eqP x y = some b) {v u : Value} (hv : VR φ n x v) (hu : VR φ n y u) (h1 : Q .none .none true) (h2 : ∀ a b, Q (.bool a) (.bool b) (a == b)) (h3 : ∀ a t b t', Q (.int a t) (.int b t') (a == b)) (h4 : ∀ z t z' t', Q (.str z t) (.str z' t') (z == z')) (h5 : ∀ a t, Q .none (.int a t) false) (h6 : ∀ a t, Q (.int a t) .none false) : Q v u b := by
  induction x <;> induction y <;> first | exact no_some9 h | skip
  · obtain rfl := Option.some.inj h; subst hv; subst hu; exact h1
  · obtain rfl := Option.some.inj h; obtain ⟨t, rfl⟩ := hu; subst hv; exact h5 _ _
  · obtain rfl := Option.some.inj h; subst hv; subst hu; exact h2 _ _
  · obtain rfl := Option.some.inj h; obtain ⟨t, rfl⟩ := hv; subst hu; exact h6 _ _
  · obtain rfl := Option.some.inj h; obtain ⟨t, rfl⟩ := hv; obtain ⟨t', rfl⟩ := hu; exact h3 _ _ _ _
  · rename_i a b
    obtain rfl := Option.some.inj h; obtain ⟨z, t, rfl, hz⟩ := hv; obtain ⟨z', t', rfl, hz'⟩ := hu
    rw [show (a == b) = (z == z') by rw [Bool.eq_iff_iff, beq_iff_eq, beq_iff_eq, hz.inj hz']]
    exact h4 _ _ _ _
theorem eqP_at {φ : Nat → Addr} {n : Nat} {x y : AV} {b : Bool} (h : eqP x y = some b) {v u : Value} (hv : VR φ n x v) (hu : VR φ n y u) (A : Around) (s : Shared) : SeqAt.EqAt A s v u b :=
  eqP_vr (Q := SeqAt.EqAt A s) h hv hu (.same _) (fun _ _ => .bool_bool _ _) (fun _ _ _ _ => .int_int _ _ _ _) (fun _ _ _ _ => .str_str _ _ _ _) (fun _ _ => .none_int _ _) (fun _ _ => .int_none _ _)
theorem eqL_range {f : AV → AV → Option Bool} : ∀ {xs ys : List AV} {b : Bool}, eqL f xs ys = some b → ∃ e : Nat → Bool, (∀ j x y, xs[j]? = some x → ys[j]? = some y → f x y = some (e j)) ∧ (List.range (min xs.length ys.length)).all e = b
  | [], _, b, h => ⟨fun _ => true, fun j x y e => by simp at e, by simp [eqL] at h ⊢; exact h⟩
  | x :: xs, [], b, h => ⟨fun _ => true, fun j x y _ e => by simp at e, by simp [eqL] at h ⊢; exact h⟩
  | x :: xs, y :: ys, b, h => by
    unfold eqL at h
    induction e1 : f x y with
    | none => rw [e1] at h; exact no_some9 h
    | some a =>
      induction e2 : eqL f xs ys with
      | none => rw [e1, e2] at h; exact no_some9 h
      | some c =>
        rw [e1, e2] at h
        refine xe12 (eqL_range e2) fun e h1 h2 => ?_
        refine ⟨fun j => match j with | 0 => a | j + 1 => e j, fun j x' y' hx hy => ?_, ?_⟩
        · induction j with
          | zero => simp only [List.getElem?_cons_zero, Option.some.injEq] at hx hy; subst hx hy; exact e1
          | succ j => simp only [List.getElem?_cons_succ] at hx hy; exact h1 j x' y' hx hy
        · obtain rfl := Option.some.inj h
          rw [List.length_cons, List.length_cons, Nat.succ_min_succ, List.range_succ_eq_map, List.all_cons, List.all_map]
          rw [← h2]; rfl
theorem all2_idx {α β : Type} {R : α → β → Prop} {l : List α} {r : List β} (h : All2 R l r) {i : Nat} {y : β} (e : r[i]? = some y) : ∃ x, l[i]? = some x ∧ R x y := by
  have hl : i < l.length := by rw [h.length]; exact (List.getElem?_eq_some_iff.mp e).1
  refine xe12 (all2_get h (List.getElem?_eq_getElem hl)) fun y' e' hr => ?_
  rw [e] at e'; obtain rfl := Option.some.inj e'
  exact ⟨_, List.getElem?_eq_getElem hl, hr⟩
theorem eqL_at {φ : Nat → Addr} {n : Nat} {f : AV → AV → Option Bool} {A : Around} {s : Shared} (hf : ∀ {x y b v u}, f x y = some b → VR φ n x v → VR φ n y u → SeqAt.EqAt A s v u b) {xs ys : List AV} {ws1 ws2 : List Value} (hw1 : All2 (VR φ n) xs ws1) (hw2 : All2 (VR φ n) ys ws2) {b : Bool} (h : eqL f xs ys = some b) :
    ∃ e : Nat → Bool, (∀ k (q1 : k < ws1.toArray.size) (q2 : k < ws2.toArray.size), SeqAt.EqAt A s ws1.toArray[k] ws2.toArray[k] (e k)) ∧ (List.range (min ws1.toArray.size ws2.toArray.size)).all e = b := by
  refine xe12 (eqL_range h) fun e h1 h2 => ?_
  refine ⟨e, fun k q1 q2 => ?_, by rw [← h2, List.size_toArray, List.size_toArray, ← hw1.length, ← hw2.length]⟩
  refine xe12 (all2_idx hw1 (i := k) (y := ws1.toArray[k]) (by rw [List.getElem_toArray]; exact List.getElem?_eq_getElem (by simpa using q1))) fun x z1 z2 => ?_
  refine xe12 (all2_idx hw2 (i := k) (y := ws2.toArray[k]) (by rw [List.getElem_toArray]; exact List.getElem?_eq_getElem (by simpa using q2))) fun y z3 z4 => ?_
  exact hf (h1 k x y z1 z3) z2 z4
theorem rcS_at {a : Act} {φ : Nat → Addr} {F : Frm} {H : Hp} {s : Shared} {g : Heap} {m : Str → Option Value} {news : List (Addr × Obj)} (r : Rel w a φ F H s g m news) {f : AV → AV → Option Bool} {A : Around} (hu : A.units < cLine)
    (hf : ∀ {x y b v u}, f x y = some b → VR φ H.next x v → VR φ H.next y u → SeqAt.EqAt A.in1 s v u b) {i j : Nat} {b : Bool} (h : rcS f H i j = some b) : SeqAt.RcAt A s (.ref (φ i)) (.ref (φ j)) b ∧ SeqAt.RcNeAt A s (.ref (φ i)) (.ref (φ j)) (!b) ∧ (∃ o, H.get i = some o) ∧ ∃ o, H.get j = some o := by
  unfold rcS at h
  split at h
  · rename_i xs e1
    split at h
    · rename_i ys e2
      split at h
      · rename_i c e0
        obtain rfl := Option.some.inj h
        have e1 := Hp.tup_eq e1
        have e2 := Hp.tup_eq e2
        obtain ⟨b1, hm1, ws1, c1, rfl, hw1⟩ := r.lr.get e1
        obtain ⟨b2, hm2, ws2, c2, rfl, hw2⟩ := r.lr.get e2
        refine xe12 (eqL_at hf hw1 hw2 e0) fun e he h2 => ?_
        have hb : ((List.range (min ws1.toArray.size ws2.toArray.size)).all e && ws1.toArray.size == ws2.toArray.size) = (c && (xs.length == ys.length)) := by
          rw [h2, List.size_toArray, List.size_toArray, ← hw1.length, ← hw2.length]
        exact ⟨hb ▸ SeqAt.RcAt.tuples (r.nw.isTup hm1) (r.nw.isTup hm2) hu he, hb ▸ SeqAt.RcNeAt.tuples (r.nw.isTup hm1) (r.nw.isTup hm2) hu he, ⟨_, e1⟩, ⟨_, e2⟩⟩
      · exact no_some9 h
    · exact no_some9 h
  · split at h
    · rename_i xs e1
      split at h
      · rename_i ys e2
        have e1 := Hp.list_eq e1
        have e2 := Hp.list_eq e2
        obtain ⟨b1, hm1, ws1, c1, rfl, hw1⟩ := r.lr.get e1
        obtain ⟨b2, hm2, ws2, c2, rfl, hw2⟩ := r.lr.get e2
        split at h
        · rename_i hl
          refine xe12 (eqL_at hf hw1 hw2 h) fun e he h2 => ?_
          have hsz : ws1.toArray.size = ws2.toArray.size := by rw [List.size_toArray, List.size_toArray, ← hw1.length, ← hw2.length, hl]
          have hb : (List.range ws1.toArray.size).all e = b := by rw [← h2, ← hsz, Nat.min_self]
          exact ⟨hb ▸ SeqAt.RcAt.lists (r.nw.isList hm1) (r.nw.isList hm2) hsz hu he, hb ▸ SeqAt.RcNeAt.lists (r.nw.isList hm1) (r.nw.isList hm2) hsz hu he, ⟨_, e1⟩, ⟨_, e2⟩⟩
        · rename_i hl
          obtain rfl := Option.some.inj h
          have hsz : (ws1.toArray.size != ws2.toArray.size) = true := by rw [List.size_toArray, List.size_toArray, ← hw1.length, ← hw2.length]; simpa using hl
          exact ⟨SeqAt.RcAt.lists_lengths (r.nw.isList hm1) (r.nw.isList hm2) hsz hu, SeqAt.RcNeAt.lists_lengths (r.nw.isList hm1) (r.nw.isList hm2) hsz hu, ⟨_, e1⟩, ⟨_, e2⟩⟩
      · exact no_some9 h
    · exact no_some9 h
theorem eqA_at {a : Act} {φ : Nat → Addr} {F : Frm} {H : Hp} {s : Shared} {g : Heap} {m : Str → Option Value} {news : List (Addr × Obj)} (r : Rel w a φ F H s g m news) : ∀ (n : Nat) (A : Around), A.units + n < cLine → ∀ {x y : AV} {b : Bool} {v u : Value},
    eqA H n x y = some b → VR φ H.next x v → VR φ H.next y u → SeqAt.EqAt A s v u b
  | 0, A, hA, x, y, b, v, u, h, hv, hu => eqP_at h hv hu A s
  | n + 1, A, hA, x, y, b, v, u, h, hv, hu => by
    replace h : (match (generalizing := false) x, y with | .ref i, .ref j => if i = j then some true else rcS (eqA H n) H i j | x, y => eqP x y) = some b := h
    split at h
    · rename_i i j
      obtain ⟨hi, rfl⟩ := hv
      obtain ⟨hj, rfl⟩ := hu
      by_cases hij : i = j
      · subst hij; rw [if_pos rfl] at h; obtain rfl := Option.some.inj h; exact .same _
      · rw [if_neg hij] at h
        obtain ⟨k1, _, ⟨o1, z1⟩, ⟨o2, z2⟩⟩ := rcS_at r (f := eqA H n) (A := A) (by lia) (fun {x y b v u} h1 h2 h3 => eqA_at r n A.in1 (by show A.units + 1 + n < cLine; lia) h1 h2 h3) h
        exact .of_refs (fun q => hij (r.lr.inj _ (lookup_lt z1) _ (lookup_lt z2) q)) k1
    · exact eqP_at h hv hu A s
theorem eqP_cmp {φ : Nat → Addr} {n : Nat} {x y : AV} {b : Bool} (h : eqP x y = some b) {v u : Value} (hv : VR φ n x v) (hu : VR φ n y u) {A : Around} {s : Shared} {Q E : Value → Shared → Prop} :
    (Q (.bool b) s → wpAny (model PR w) A (compareOp .Eq v u) Q E s) ∧ (Q (.bool (!b)) s → wpAny (model PR w) A (compareOp .NotEq v u) Q E s) :=
  eqP_vr (Q := fun v u b => (Q (.bool b) s → wpAny (model PR w) A (compareOp .Eq v u) Q E s) ∧ (Q (.bool (!b)) s → wpAny (model PR w) A (compareOp .NotEq v u) Q E s)) h hv hu
    ⟨fun q => PySem.EqNone.eq_none_none q, fun q => PySem.EqNone.ne_none_none q⟩ (fun _ _ => ⟨fun q => eq_bool q, fun q => ne_bool q⟩) (fun _ _ _ _ => ⟨fun q => eq_int q, fun q => ne_int q⟩) (fun _ _ _ _ => ⟨fun q => eq_str q, fun q => ne_str q⟩) (fun _ _ => ⟨fun q => PySem.EqNone.eq_none_int q, fun q => PySem.EqNone.ne_none_int q⟩) (fun _ _ => ⟨fun q => PySem.EqNone.eq_int_none q, fun q => PySem.EqNone.ne_int_none q⟩)
theorem O_eq (hl : 1 ≤ lv) : SO2 w G0 lv st (compareOp .Eq) (opEq true) := fun a φ F H s Qc Ec x y v u ok R hv hu h => by
  refine xe3 (id R) fun g m news r => ?_
  have un := ok.units
  unfold opEq at h
  split at h
  · split at h
    · rename_i b e
      obtain ⟨hi, rfl⟩ := hv
      obtain ⟨hj, rfl⟩ := hu
      exact (rcS_at r (A := a.A) (by lia) (fun {x y b v u} h1 h2 h3 => eqA_at r 4 _ (by show a.A.units + 1 + 4 < cLine; lia) h1 h2 h3) e).1 _ _ _ _ (PO.here h R _ (by induction b <;> rfl))
    · exact h.elim
  · split at h
    · rename_i b e
      exact (eqP_cmp e hv hu).1 (PO.here h R _ (by induction b <;> rfl))
    · exact h.elim
theorem O_ne (hl : 1 ≤ lv) : SO2 w G0 lv st (compareOp .NotEq) (opEq false) := fun a φ F H s Qc Ec x y v u ok R hv hu h => by
  refine xe3 (id R) fun g m news r => ?_
  have un := ok.units
  unfold opEq at h
  split at h
  · split at h
    · rename_i b e
      obtain ⟨hi, rfl⟩ := hv
      obtain ⟨hj, rfl⟩ := hu
      exact (rcS_at r (A := a.A) (by lia) (fun {x y b v u} h1 h2 h3 => eqA_at r 4 _ (by show a.A.units + 1 + 4 < cLine; lia) h1 h2 h3) e).2.1 _ _ _ _ (PO.here h R _ (by induction b <;> rfl))
    · exact h.elim
  · split at h
    · rename_i b e
      exact (eqP_cmp e hv hu).2 (PO.here h R _ (by induction b <;> rfl))
    · exact h.elim

-- in and not in, upon ints
noncomputable def intsA : List AV → Option (List Int)
  | [] => some []
  | .int k :: l => (intsA l).map (k :: ·)
  | _ :: _ => none
theorem intsA_are {φ : Nat → Addr} {n : Nat} {l : List AV} {r : List Value} (h : All2 (VR φ n) l r) : ∀ {ns}, intsA l = some ns → IntsAre r ns := by
  induction h with
  | nil => intro ns e; obtain rfl := Option.some.inj e; exact .nil
  | cons h _ ih =>
    intro ns e
    unfold intsA at e
    split at e
    · rename_i q; contradiction
    · rename_i q; cases q
      obtain ⟨tk, rfl⟩ := h
      obtain ⟨q, e1, rfl⟩ := Option.map_eq_some_iff.mp e
      exact .cons _ tk (ih e1)
    · exact no_some9 e
noncomputable def seqI (i : Nat) (H : Hp) : Option (List Int) := (H.seq i).bind intsA
noncomputable def opIn (b : Bool) : AV → AV → Hp → Res AV
  | .int k, .ref i, H => (match seqI i H with | some ns => .ok (.bool (ns.any (· == k) == b)) H | none => .stuck)
  | _, _, _ => .stuck
theorem O_in : SO2 w G0 lv st (compareOp .In) (opIn true) := fun a φ F H s Qc Ec x y v u ok R hv hu h => by
  unfold opIn at h
  split at h
  · rename_i k i
    split at h
    · rename_i ns e
      obtain ⟨t, rfl⟩ := hv
      obtain ⟨hi, rfl⟩ := hu
      refine xe3 (id R) fun g m news r => ?_
      refine xe12 (Option.bind_eq_some_iff.mp e) fun vs e1 e => ?_
      rcases Hp.seq_eq e1 with e1 | e1
      · obtain ⟨ob, hm, ws, c, rfl, hw⟩ := r.lr.get e1
        exact in_list_ints (r.nw.isList hm) (intsA_are hw e) (PO.here h R _ (by simp; rfl))
      · obtain ⟨ob, hm, ws, c, rfl, hw⟩ := r.lr.get e1
        exact in_tuple_ints (r.nw.isTup hm) (intsA_are hw e) (PO.here h R _ (by simp; rfl))
    · exact h.elim
  · exact h.elim
theorem O_nin : SO2 w G0 lv st (compareOp .NotIn) (opIn false) := fun a φ F H s Qc Ec x y v u ok R hv hu h => by
  unfold opIn at h
  split at h
  · rename_i k i
    split at h
    · rename_i ns e
      obtain ⟨t, rfl⟩ := hv
      obtain ⟨hi, rfl⟩ := hu
      refine xe3 (id R) fun g m news r => ?_
      refine xe12 (Option.bind_eq_some_iff.mp e) fun vs e1 e => ?_
      rcases Hp.seq_eq e1 with e1 | e1
      · obtain ⟨ob, hm, ws, c, rfl, hw⟩ := r.lr.get e1
        exact notin_list_ints (r.nw.isList hm) (intsA_are hw e) (PO.here h R _ (by simp; rfl))
      · obtain ⟨ob, hm, ws, c, rfl, hw⟩ := r.lr.get e1
        exact notin_tuple_ints (r.nw.isTup hm) (intsA_are hw e) (PO.here h R _ (by simp; rfl))
    · exact h.elim
  · exact h.elim
noncomputable def opNinG (t : Addr) (ns : List Int) : AV → AV → Hp → Res AV
  | .int k, .glob a, H => if a = t then .ok (.bool (!(ns.any (· == k)))) H else .stuck
  | _, _, _ => .stuck
theorem O_ninG (GD : Gd w p loose mean mg mb G0) {t : Addr} {l : List Value} {ns : List Int} {n : Nat} {dd : Option Addr} {sl : Array (Option Value)} (hl : (hd.heap_39 w.params).lookup t = some ⟨.type "tuple", dd, .seq l.toArray n, sl⟩) (hi : IntsAre l ns) :
    SO2 w G0 lv st (compareOp .NotIn) (opNinG t ns) := fun a φ F H s Qc Ec x y v u ok R hv hu h => by
  unfold opNinG at h
  split at h
  · rename_i k a'
    split at h
    · rename_i e
      subst e
      obtain ⟨t', rfl⟩ := hv
      subst hu
      refine xe3 (id R) fun g m news r => ?_
      exact notin_tuple_ints (tupK ((GD.X.keeps (ok.base r.turn)).keeps r.fr.keep) hl) hi (PO.here h R _ rfl)
    · exact h.elim
  · exact h.elim
end
end Mine
end
-- M15
section
open PySem PySem.W PyProof.Rows PySem.Calls PySem.Spec
set_option Elab.async false
set_option linter.all false
namespace Mine
set_option maxRecDepth 100000
section
variable {w : World} {p : Program} {loose : List Str} {mean : ExcName → Option Value} {mg mb : Str → Option Value} {G0 : Heap} {lv : Nat} {st : Sta}
theorem All2.app {α β : Type} {R : α → β → Prop} {l1 : List α} {r1 : List β} {l2 : List α} {r2 : List β} (a : All2 R l1 r1) (b : All2 R l2 r2) : All2 R (l1 ++ l2) (r1 ++ r2) := by
  induction a with
  | nil => exact b
  | cons x _ ih => exact .cons x ih
theorem All2.rep {α β : Type} {R : α → β → Prop} {l : List α} {r : List β} (a : All2 R l r) : ∀ k, All2 R (List.replicate k l).flatten (List.replicate k r).flatten
  | 0 => .nil
  | k + 1 => by rw [List.replicate_succ, List.replicate_succ, List.flatten_cons, List.flatten_cons]; exact a.app (a.rep k)
-- list times int, list plus list
noncomputable def oMulL : AV → AV → Hp → Res AV
  | .ref i, .int k, H => (match H.list i with
    | some vs => if 0 ≤ k ∧ k ≤ 100 ∧ vs.length ≤ 10 then .ok (.ref H.next) (H.push (.list (List.replicate k.toNat vs).flatten)) else .stuck
    | _ => .stuck)
  | _, _, _ => .stuck
theorem O_mulL : SO2 w G0 lv st (binaryOp .Mult) oMulL := fun a φ F H s Qc Ec x y v u ok R hv hu h => by
  unfold oMulL at h
  split at h
  · rename_i i k
    obtain ⟨hi, rfl⟩ := hv
    obtain ⟨t, rfl⟩ := hu
    split at h
    · rename_i vs e1
      split at h
      · rename_i hk
        refine xe3 (R) fun g m news r => ?_
        obtain ⟨ob, hm, ws, c, rfl, hw⟩ := r.lr.get (Hp.list_eq e1)
        have ho := (r.nw _ hm).1
        have hlen : ws.length = vs.length := hw.length.symm
        have hsz : ws.length * k.toNat ≤ 2 ^ 24 := by
          have : k.toNat ≤ 100 := by lia
          exact Nat.le_trans (Nat.mul_le_mul (show ws.length ≤ 10 by lia) this) (by decide)
        refine wpAny_binaryOp_repeat_ref (T := "list") (U := "int") (by decide) ⟨_, ho, rfl⟩ (fun s' => typeIs_int s' k t) noFill_list_mul PySem.F.fills_int_mul PySem.F.slot_int_rmul repeat_list PySem.F.slot_int_index.lookup
          (call_meets PySem.F.slot_int_rmul (typeIs_int s k t) PySem.F.entry_int_rmul (PySem.F.args_int_rmul_2 _ _) (lm_int_rmul_list_any k t _ ws.toArray c none #[])
            ⟨ho, rfl, ⟨_, ho, rfl⟩, call_meets PySem.F.slot_list_mul ⟨_, ho, rfl⟩ PySem.F.entry_list_mul (PySem.F.args_list_mul_2 _ _)
              (lm_list_mul_any _ ws.toArray c none #[] k t (by simp [Builtin.List.listFitsIndex]; lia) (by simp only [List.size_toArray]; lia) (by simp [Builtin.List.listTooLong, sizeLine]; lia))
              ⟨ho, ?_⟩⟩)
        have e : List.foldl (fun x1 x2 => x1 ++ x2) #[] (List.replicate (if ws.toArray.isEmpty = true then 0 else k.toNat) ws.toArray) = (List.replicate k.toNat ws).flatten.toArray := listMul_foldl_if ..
        rw [e]
        exact h _ _ (r.hpush (k := s.toks) rfl ⟨_, 0, rfl, hw.rep _⟩) .up _ vr_new
      · exact h.elim
    · exact h.elim
  · exact h.elim
noncomputable def oAddL : AV → AV → Hp → Res AV
  | .ref i, .ref j, H => (match H.list i, H.list j with
    | some vs, some us => if vs.length + us.length ≤ 1000 then .ok (.ref H.next) (H.push (.list (vs ++ us))) else .stuck
    | _, _ => .stuck)
  | _, _, _ => .stuck
theorem O_addL : SO2 w G0 lv st (binaryOp .Add) oAddL := fun a φ F H s Qc Ec x y v u ok R hv hu h => by
  unfold oAddL at h
  split at h
  · rename_i i j
    obtain ⟨hi, rfl⟩ := hv
    obtain ⟨hj, rfl⟩ := hu
    split at h
    · rename_i vs us e1 e2
      split at h
      · rename_i hk
        refine xe3 (R) fun g m news r => ?_
        obtain ⟨ob, hm, ws, c, rfl, hw⟩ := r.lr.get (Hp.list_eq e1)
        obtain ⟨ob2, hm2, ws2, c2, rfl, hw2⟩ := r.lr.get (Hp.list_eq e2)
        have l1 := hw.length
        have l2 := hw2.length
        refine add_lists (hsz := size_ok (by lia)) r.fr r.nw (r.nw.isList hm) (r.nw.isList hm2) fun h' F' N' => h _ _ (r.push (k := s.toks) F' N' (fun q hq e => ?_) ⟨_, 0, rfl, hw.app hw2⟩) .up _ vr_new
        have := Heap.lt_size (r.nw q hq).1
        rw [e] at this; exact Nat.lt_irrefl _ this
      · exact h.elim
    · exact h.elim
  · exact h.elim

-- append and pop(0)
noncomputable def appD (x v : AV) (H : Hp) : Res AV := match x with
  | .ref i => (match H.list i with
    | some vs => if vs.length ≤ 1000 then .ok .none (H.set i (.list (vs ++ [v]))) else .stuck
    | _ => .stuck)
  | _ => .stuck
noncomputable def popD : AV → AV → Hp → Res AV
  | .ref i, .int k, H => if k = 0 then (match H.list i with
    | some (v :: vs) => if vs.length ≤ 1000 then .ok v (H.set i (.list vs)) else .stuck
    | _ => .stuck) else .stuck
  | _, _, _ => .stuck
theorem O_app : SO2 w G0 lv st (fun v u => call (.builtin "list.append") [v, u]) appD := fun a φ F H s Qc Ec x y v u ok R hv hu h => by
  unfold appD at h
  split at h
  · rename_i i
    obtain ⟨hi, rfl⟩ := hv
    split at h
    · rename_i vs e1
      split at h
      · rename_i hk
        refine xe3 (R) fun g m news r => ?_
        refine xe13 (r.lr.upd (Hp.list_eq e1)) fun ob hob hm hup => ?_
        obtain ⟨ws, c, rfl, hw⟩ := hob
        refine xe12 (hup (a' := .list (vs ++ [y])) (o' := listOf (ws.toArray.push u) (c + 1)) ⟨ws ++ [u], c + 1, by simp, hw.app (.cons hu .nil)⟩) fun n1 u1 l1 => ?_
        exact append_K (hsz := size_ok (by rw [List.size_toArray, ← hw.length]; exact hk)) r.fr r.nw u1 (fun h' F' N' => h φ { s with heap := h' } ⟨g, m, n1, ⟨F', N', l1, r.loc, r.cl, r.turn, r.same⟩⟩ .refl _ rfl)
      · exact h.elim
    · exact h.elim
  · exact h.elim
theorem O_pop : SO2 w G0 lv st (fun v u => call (.builtin "list.pop") [v, u]) popD := fun a φ F H s Qc Ec x y v u ok R hv hu h => by
  unfold popD at h
  split at h
  · rename_i i k
    obtain ⟨hi, rfl⟩ := hv
    obtain ⟨t, rfl⟩ := hu
    split at h
    · rename_i hk
      subst hk
      split at h
      · rename_i v0 vs e1
        split at h
        · rename_i hl
          refine xe3 (R) fun g m news r => ?_
          refine xe13 (r.lr.upd (Hp.list_eq e1)) fun ob hob hm hup => ?_
          obtain ⟨ws, c, rfl, hw⟩ := hob
          cases hw with
          | cons x y =>
            rename_i u0 us
            refine xe12 (hup (a' := .list vs) (o' := listOf us.toArray (c + 1)) ⟨us, c + 1, rfl, y⟩) fun n1 u1 l1 => ?_
            exact kl_popAt (k := 0) (p := []) (q := us) (y := u0) r.fr r.nw (by decide) (by simp [seqIndex?]) rfl u1 (by show (u0 :: us).length ≤ sizeLine; rw [List.length_cons, ← y.length, PySem.sizeLine_eq]; lia) (fun h' F' N' => h φ { s with heap := h' } ⟨g, m, n1, ⟨F', N', l1, r.loc, r.cl, r.turn, r.same⟩⟩ .refl _ x)
        · exact h.elim
      · exact h.elim
    · exact h.elim
  · exact h.elim
/-- a list's own method of one argument -/
noncomputable def isLst : AV → Hp → Bool
  | .ref i, H => (match H.list i with | some _ => true | _ => false)
  | _, _ => false
noncomputable def eLm (f : AV → AV → Hp → Res AV) (D0 D1 : Frm → Hp → Res AV) : Frm → Hp → Res AV := fun F H => (D0 F H).bind fun v H1 => if isLst v H1 then (D1 F H1).bind fun y H2 => f v y H2 else .stuck
theorem S_lm {o e : Expr} {x : Str} {id : String} {ap pos : Pos} {D0 D1 : Frm → Hp → Res AV} {f : AV → AV → Hp → Res AV} (slot : Slot "list" x id) (hty : typeOf (.builtin id) = pure (.type "method_descriptor")) (hf : SO2 w G0 lv st (fun v u => call (.builtin id) [v, u]) f) (h0 : SE w G0 lv st o D0) (h1 : SE w G0 lv st e D1)
    (hs : ∀ env : Env, starEach [e] env = (false, eval e env) :: starEach [] env) (pl : Env → Sem Bool)
    (hc : ∀ env : Env, eval (.Call (.Attribute o x ap) [e] [] pos) env = (do let ov ← eval o env; standAt ap.atName; let y ← holding [ov] (getMethod ov x (pl env)); callWith pos y.1 y.2 (backTo pos (starEach [e] env)) [])) :
    SE w G0 lv st (.Call (.Attribute o x ap) [e] [] pos) (eLm f D0 D1) := fun a φ F H s Qc Ec ok R h =>
  MethodCall_ (h0 a φ F H s _ Ec ok R (PO.bind2 (k := fun v H1 => if isLst v H1 then (D1 F H1).bind fun y H2 => f v y H2 else .stuck) h fun y φ1 H1 s1 R1 X1 h' v hv => by
    by_cases e0 : isLst y H1 = true
    · rw [if_pos e0] at h'
      unfold isLst at e0
      split at e0
      · rename_i i
        split at e0
        · rename_i vs e1
          have R1' := R1
          refine xe3 (R1') fun g m news r => ?_
          obtain ⟨hi, rfl⟩ := hv
          obtain ⟨ob, hm, ws, c, rfl, hw⟩ := r.lr.get (Hp.list_eq e1)
          refine kl_method r.nw hm slot hty ?_
          refine callWith_method1 (args_cons (h1 a φ1 F H1 s1 _ Ec ok R1 (PO.bind2 h' fun z φ2 H2 s2 R2 X2 h'' u hu => args_nil ?_)) (hs _)) (hs _) rfl
          exact hf a φ2 F H2 s2 Qc Ec (.ref i) z (.ref (φ1 i)) u ok R2 (VR.ext X2 (show VR φ1 H1.next (.ref i) (.ref (φ1 i)) from ⟨hi, rfl⟩)) hu h''
        · exact no_true9 e0
      · exact no_true9 e0
    · rw [if_neg e0] at h'; exact h'.elim)) (hc _)

-- a builtin called by its name
theorem S_bcall {fe : Expr} {id : String} {e : Expr} {es : List Expr} {pos : Pos} {DA : Frm → Hp → Res (List AV)} {D : List AV → Hp → Res AV} (hn : SE w G0 lv st fe (fun _ H => .ok (.bltn id) H)) (ha : SA w G0 lv st (e :: es) DA)
    (hf : SOn w G0 lv st (fun vs => call (.builtin id) vs) D)
    (hs : ∀ env : Env, starEach (e :: es) env = (false, eval e env) :: starEach es env) (hs2 : ∀ env : Env, ((backTo pos (starEach es env)).any (·.1)) = false)
    (hc : ∀ env : Env, eval (.Call fe (e :: es) [] pos) env = (do callWith pos (← eval fe env) [] (backTo pos (starEach (e :: es) env)) (backToKw pos (keywordEach [] env)))) :
    SE w G0 lv st (.Call fe (e :: es) [] pos) (fun F H => (DA F H).bind D) := fun a φ F H s Qc Ec ok R h =>
  Call_ (hn a φ F H s _ Ec ok R (fun φ1 s1 R1 X1 v hv => by
    subst hv
    exact callWith_method1 (first := []) (ha a φ1 F H s1 _ Ec pos ok R1 (PO.bind2 (PO.weak h X1) fun xs φ2 H2 s2 R2 X2 h' vs hvs => hf a φ2 F H2 s2 Qc Ec xs vs ok R2 hvs h')) (hs _) (hs2 _))) (hc _)
theorem S_tcall {fe : Expr} {id : String} {e : Expr} {es : List Expr} {pos : Pos} {DA : Frm → Hp → Res (List AV)} {D : List AV → Hp → Res AV} (hn : SE w G0 lv st fe (fun _ H => .ok (.typ id) H)) (ha : SA w G0 lv st (e :: es) DA)
    (hf : SOn w G0 lv st (fun vs => call (.type id) vs) D)
    (hs : ∀ env : Env, starEach (e :: es) env = (false, eval e env) :: starEach es env) (hs2 : ∀ env : Env, ((backTo pos (starEach es env)).any (·.1)) = false)
    (hc : ∀ env : Env, eval (.Call fe (e :: es) [] pos) env = (do callWith pos (← eval fe env) [] (backTo pos (starEach (e :: es) env)) (backToKw pos (keywordEach [] env)))) :
    SE w G0 lv st (.Call fe (e :: es) [] pos) (fun F H => (DA F H).bind D) := fun a φ F H s Qc Ec ok R h =>
  Call_ (hn a φ F H s _ Ec ok R (fun φ1 s1 R1 X1 v hv => by
    subst hv
    refine PyProof.Rows.callWith_type (first := []) ?_ ?_ 
    · rw [hs]; show (false || (backTo pos (starEach es _)).any (·.1)) = false; rw [hs2]; rfl
    · have := ha a φ1 F H s1 (fun vs s2 => wpAny (model PR w) a.A (call (.type id) vs) Qc Ec s2) Ec pos ok R1 (PO.bind2 (PO.weak h X1) fun xs φ2 H2 s2 R2 X2 h' vs hvs => hf a φ2 F H2 s2 Qc Ec xs vs ok R2 hvs h')
      rw [hs] at this ⊢
      exact evalArgs_plain this)) (hc _)
noncomputable def fRange : List AV → Hp → Res AV
  | [.int n], H => .ok (.ref H.next) (H.push (.range 0 n))
  | [.int a, .int b], H => .ok (.ref H.next) (H.push (.range a b))
  | _, _ => .stuck
theorem O_range : SOn w G0 lv st (fun vs => call (.type "range") vs) fRange := fun a φ F H s Qc Ec xs vs ok R hx h => by
  unfold fRange at h
  refine xe3 (R) fun g m news r => ?_
  split at h
  · cases hx with | cons hx0 t => cases t; obtain ⟨t, rfl⟩ := hx0
                                  exact call_range_1 (h _ _ (r.hpush (k := s.toks + 1 + 1) rfl ⟨_, _, _, rfl⟩) .up _ vr_new)
  · cases hx with | cons hx0 t => cases t with | cons hx1 t => cases t; obtain ⟨t, rfl⟩ := hx0; obtain ⟨t, rfl⟩ := hx1
                                                               exact call_range_2 (h _ _ (r.hpush (k := s.toks + 1) rfl ⟨_, _, _, rfl⟩) .up _ vr_new)
  · exact h.elim
noncomputable def fLen : List AV → Hp → Res AV
  | [.ref i], H => (match H.list i with | some vs => if vs.length ≤ 1000000 then .ok (.int vs.length) H else .stuck | _ => .stuck)
  | _, _ => .stuck
theorem O_len : SOn w G0 lv st (fun vs => call (.builtin "len") vs) fLen := fun a φ F H s Qc Ec xs vs ok R hx h => by
  unfold fLen at h
  refine xe3 (id R) fun g m news r => ?_
  split at h
  · cases hx with
    | cons hx0 t =>
      cases t
      obtain ⟨hi, rfl⟩ := hx0
      split at h
      · rename_i e1
        obtain ⟨ob, hm, ws, c, rfl, hw⟩ := r.lr.get (Hp.list_eq e1)
        split at h
        · rename_i hl
          refine Calls.call_len_list (r.nw.isList hm) (by rw [List.size_toArray, ← hw.length]; lia) (PO.here h (R.toks (k := s.toks + 1 + 1)) _ ⟨s.toks + 1, ?_⟩)
          rw [List.size_toArray, ← hw.length]
        · exact h.elim
      · exact h.elim
  · exact h.elim
noncomputable def fDivmod : List AV → Hp → Res AV
  | [.int x, .int y], H => if 0 < y ∧ y < 2 ^ 29 ∧ -2 ^ 62 < x ∧ x < 2 ^ 62 then .ok (.ref H.next) (H.push (.tup [.int (x / y), .int (x % y)])) else .stuck
  | _, _ => .stuck
theorem O_divmod : SOn w G0 lv st (fun vs => call (.builtin "divmod") vs) fDivmod := fun a φ F H s Qc Ec xs vs ok R hx h => by
  unfold fDivmod at h
  refine xe3 (id R) fun g m news r => ?_
  split at h
  · rename_i x y
    cases hx with
    | cons hx0 t =>
      cases t with
      | cons hx1 t =>
        cases t
        obtain ⟨t, rfl⟩ := hx0
        obtain ⟨t', rfl⟩ := hx1
        split at h
        · rename_i hb
          refine xa4 (hb) fun hb hb2 hb3 hb4 => ?_
          refine divmod_N r.fr r.nw (by lia) (fun h' F' N' => h _ _ (r.push (k := s.toks + 1 + 1) F' N' (fun q hq e => ?_) ⟨_, 0, rfl, .cons ⟨s.toks, ?_⟩ (.cons ⟨s.toks + 1, ?_⟩ .nil)⟩) .up _ vr_new) ?_
          · have := Heap.lt_size (r.nw q hq).1
            rw [e] at this; exact Nat.lt_irrefl _ this
          · rw [Int.fdiv_eq_ediv_of_nonneg _ (by lia)]
          · rw [Int.fmod_eq_emod_of_nonneg _ (by lia)]
          · exact Or.inl (PyProof.noPylong_small (by lia))
        · exact h.elim
  · exact h.elim
noncomputable def fSum : List AV → Hp → Res AV
  | [.ref i], H => (match H.list i with | some vs => (match intsA vs with | some ns => .ok (.int ns.sum) H | none => .stuck) | _ => .stuck)
  | _, _ => .stuck
theorem O_sum (hnh : st.nh = true) : SOn w G0 lv st (fun vs => call (.builtin "sum") vs) fSum := fun a φ F H s Qc Ec xs vs ok R hx h => by
  unfold fSum at h
  refine xe3 (id R) fun g m news r => ?_
  split at h
  · cases hx with
    | cons hx0 t =>
      cases t
      obtain ⟨hi, rfl⟩ := hx0
      split at h
      · rename_i e1
        obtain ⟨ob, hm, ws, c, rfl, hw⟩ := r.lr.get (Hp.list_eq e1)
        split at h
        · rename_i ns e2
          exact LSm.sum_ints r.fr r.nw (ok.handled hnh) (r.nw.isList hm) (intsA_are hw e2) fun h' tk t' F' N' => h φ { s with heap := h', toks := tk } ⟨g, m, news, ⟨F', N', r.lr, r.loc, r.cl, r.turn, r.same⟩⟩ .refl _ ⟨_, rfl⟩
        · exact h.elim
      · exact h.elim
  · exact h.elim
noncomputable def insI (x : Int) : List Int → List Int
  | [] => [x]
  | y :: l => if x ≤ y then x :: y :: l else y :: insI x l
noncomputable def srtI : List Int → List Int
  | [] => []
  | x :: l => insI x (srtI l)
noncomputable def fSorted : List AV → Hp → Res AV
  | [.ref i], H => (match H.list i with | some vs => (match intsA vs with | some ns => if ns.length < 64 then .ok (.ref H.next) (H.push (.list ((srtI ns).map .int))) else .stuck | none => .stuck) | _ => .stuck)
  | _, _ => .stuck
theorem insI_perm (x : Int) : ∀ l, (insI x l).Perm (x :: l)
  | [] => .refl _
  | y :: l => by
    unfold insI; split
    · exact .refl _
    · exact (List.Perm.cons y (insI_perm x l)).trans (List.Perm.swap x y l)
theorem srtI_perm : ∀ l, (srtI l).Perm l
  | [] => .refl _
  | x :: l => (insI_perm x _).trans ((srtI_perm l).cons x)
theorem insI_sort (x : Int) : ∀ {l : List Int}, l.Pairwise (· ≤ ·) → (insI x l).Pairwise (· ≤ ·)
  | [], _ => List.pairwise_singleton _ _
  | y :: l, h => by
    rw [List.pairwise_cons] at h
    unfold insI; split
    · rename_i hxy
      rw [List.pairwise_cons, List.pairwise_cons]
      exact ⟨fun a ha => by rcases List.mem_cons.mp ha with rfl | ha; exact hxy; exact Int.le_trans hxy (h.1 a ha), h⟩
    · rename_i hxy
      rw [List.pairwise_cons]
      refine ⟨fun a ha => ?_, insI_sort x h.2⟩
      rcases List.mem_cons.mp ((insI_perm x l).mem_iff.mp ha) with rfl | ha
      · lia
      · exact h.1 a ha
theorem srtI_sort : ∀ l, (srtI l).Pairwise (· ≤ ·)
  | [] => .nil
  | x :: l => insI_sort x (srtI_sort l)
theorem all2_ints {φ : Nat → Addr} {n : Nat} : ∀ {vs : List Value} {ns : List Int}, IntsAre vs ns → All2 (VR φ n) (ns.map .int) vs
 := fun h => by
  induction h with
  | nil => exact .nil
  | cons k t h ih => exact .cons ⟨t, rfl⟩ ih
theorem O_sorted : SOn w G0 lv st (fun vs => call (.builtin "sorted") vs) fSorted := fun a φ F H s Qc Ec xs vs ok R hx h => by
  unfold fSorted at h
  refine xe3 (id R) fun g m news r => ?_
  split at h
  · cases hx with
    | cons hx0 t =>
      cases t
      obtain ⟨hi, rfl⟩ := hx0
      split at h
      · rename_i e1
        obtain ⟨ob, hm, ws, c, rfl, hw⟩ := r.lr.get (Hp.list_eq e1)
        split at h
        · rename_i ns e2
          split at h
          · rename_i hl
            have hI := intsA_are hw e2
            refine sorted_N r.fr r.nw (r.nw.isList hm) hI (by have := hI.length; lia) fun h' vs' ns' e F' N' hI' hp hs => ?_
            have e3 : ns' = srtI ns := List.Perm.eq_of_pairwise (fun a b _ _ h1 h2 => Int.le_antisymm h1 h2) hs (srtI_sort ns) (hp.trans (srtI_perm ns).symm)
            subst e3
            refine h _ _ (r.push (k := s.toks) F' N' (fun q hq e => ?_) ⟨vs', e, rfl, all2_ints hI'⟩) .up _ vr_new
            have := Heap.lt_size (r.nw q hq).1
            rw [e] at this
            exact absurd this (Nat.not_lt.mpr (Nat.le_succ _))
          · exact h.elim
        · exact h.elim
      · exact h.elim
  · exact h.elim
noncomputable def fMin : List AV → Hp → Res AV
  | [.int x, .int y], H => .ok (.int (if y < x then y else x)) H
  | _, _ => .stuck
theorem O_min (hnh : st.nh = true) : SOn w G0 lv st (fun vs => call (.builtin "min") vs) fMin := fun a φ F H s Qc Ec xs vs ok R hx h => by
  unfold fMin at h
  refine xe3 (id R) fun g m news r => ?_
  split at h
  · cases hx with
    | cons hx0 t =>
      cases t with
      | cons hx1 t =>
        cases t
        obtain ⟨t, rfl⟩ := hx0
        obtain ⟨t', rfl⟩ := hx1
        refine min_two_ints (ok.handled hnh) fun h' tk hk => h φ { s with heap := h', toks := tk } ⟨g, m, news, ⟨r.fr.keeps hk, r.nw.grown hk, r.lr, r.loc, r.cl, r.turn, r.same⟩⟩ .refl _ ?_
        split
        · exact ⟨_, rfl⟩
        · exact ⟨_, rfl⟩
  · exact h.elim
end
end Mine
end
-- M16
section
open PySem PySem.W PyProof.Rows PySem.Calls PySem.Spec
set_option Elab.async false
set_option linter.all false
namespace Mine
set_option maxRecDepth 100000
section
variable {w : World} {p : Program} {loose : List Str} {mean : ExcName → Option Value} {mg mb : Str → Option Value} {G0 : Heap} {lv : Nat} {st : Sta}
theorem Begins.under {ks : List (Addr × Obj)} {A : Around} {outer : List Env} {fs : List (Addr × Obj)} {s : Shared} {φ : Nat → Addr} {H : Hp} {news : List (Addr × Obj)} {nh : Bool} (B : Begins w G0 (lv + 1) nh ks A outer fs s φ H news) (C : Addr) (vs : List Value) (k : List (Str × Value)) :
    Begins w G0 lv nh ks (A.under (.builtin "type.__call__" ⟨.ref C :: vs, k⟩)) outer fs s φ H news :=
  ⟨B.handled, B.frames, by have := B.depth; show A.depth + 1 + 5 * lv < _; lia, by have := B.units; show A.units + 1 + 50 * lv < _; lia, B.outer, B.fs, B.stays, B.lr, B.there⟩
theorem Begins.weak {nh nh' : Bool} (hn : nh' = true → nh = true) {ks : List (Addr × Obj)} {A : Around} {outer : List Env} {fs : List (Addr × Obj)} {s : Shared} {φ : Nat → Addr} {H : Hp} {news : List (Addr × Obj)} (B : Begins w G0 lv nh ks A outer fs s φ H news) : Begins w G0 lv nh' ks A outer fs s φ H news :=
  ⟨fun q => B.handled (hn q), B.frames, B.depth, B.units, B.outer, B.fs, B.stays, B.lr, B.there⟩
/-- an object is made -/
noncomputable def fNew (C : Addr) (D : List AV → Hp → Res AV) (xs : List AV) (H : Hp) : Res AV :=
  match D (.ref (H.next + 1) :: xs) ((H.push (.dict [])).push (.inst C H.next)) with
  | .ok .none H' => .ok (.ref (H.next + 1)) H'
  | .exc e H' => .exc e H'
  | _ => .stuck
theorem vr_up {φ : Nat → Addr} {n : Nat} {D : Addr} {x : AV} {v : Value} (h : VR φ n x v) : VR (upφ φ n D) (n + 1) x v := h.ext .up
theorem O_new (GD : Gd w p loose mean mg mb G0) {C fI : Addr} {D : List AV → Hp → Res AV} (hm : makesIn (hd.heap_39 w.params) C = true) (hi : findIn (hd.heap_39 w.params) (.ref C) "__init__" = some (some (.ref fI))) (hf : typeIn (hd.heap_39 w.params) (.ref fI) = some (.type "function")) {nh : Bool} (hS : SF w G0 lv nh (.ref fI) D) (hn : nh = true → st.nh = true) (hcm : st.cm = false) :
    SOn w G0 (lv + 1) st (fun vs => call (.ref C) vs) (fNew C D) := fun a φ F H s Qc Ec xs vs ok R hx h => by
  refine xe3 (R) fun g m news r => ?_
  refine wpAny_call (make_K r.fr r.nw ((GD.X.keeps (ok.base r.turn)).keeps r.fr.keep) hm hi hf (fun x dx h' F' N' l1 l2 => ?_))
  have N1 : News g a.L h' ((dx, emptyDict) :: news) := fun q hq => N' q (.tail _ hq)
  obtain ⟨lr1, e1⟩ : ∃ φ1, φ1 = upφ φ H.next dx := ⟨_, rfl⟩
  have R2 : RelX w a (upφ (upφ φ H.next dx) (H.next + 1) x) F ((H.push (.dict [])).push (.inst C H.next)) { s with heap := h' } := by
    have L1 := r.lr.push (a := .dict []) (o := emptyDict) (l := dx) ⟨[], 0, rfl, .nil⟩ (lt_ne l1)
    have L2 := L1.push (a := .inst C H.next) (o := instObj C dx) (l := x) ⟨Nat.lt_succ_self _, by rw [show upφ φ H.next dx H.next = dx from if_pos rfl]⟩ (fun q hq => by
      rcases List.mem_cons.mp hq with rfl | hq
      · exact Nat.ne_of_lt l2
      · exact Nat.ne_of_lt (Nat.lt_trans (l1 q hq) l2))
    refine ⟨g, m, _, ⟨F', N', L2, fun c y b hc e => ?_, r.cl.mono fun p q hh => (hh.ext .up).ext .up, r.turn, r.same⟩⟩
    obtain ⟨u, h1, h2⟩ := r.loc c y b hc e; exact ⟨u, h1, (h2.ext .up).ext .up⟩
  have X2 : Ext φ H.next (upφ (upφ φ H.next dx) (H.next + 1) x) (H.next + 1 + 1) := Ext.trans .up .up
  obtain ⟨fs, news2, B, back⟩ := call_out GD (lv := lv + 1) ok R2 hcm
  refine hS a.ks _ _ fs _ _ _ news2 _ (.ref (H.next + 1) :: xs) (.ref x :: vs) (Begins.weak hn (B.under _ _ _)) (.cons vr_new (hx.mono fun _ _ q => q.ext X2)) ?_
  unfold fNew at h
  induction e : D (.ref (H.next + 1) :: xs) ((H.push (.dict [])).push (.inst C H.next)) with
  | stuck => rw [e] at h; exact h
  | guard p r => rw [e] at h; exact h.elim
  | exc e0 H' =>
    rw [e] at h
    exact fun φ' s' news' l hlt => h φ' s' (back _ _ _ _ l) (X2.trans l.ext) hlt
  | ok v H' =>
    rw [e] at h
    induction v <;> try exact h.elim
    intro φ' s' news' u l hu
    cases hu
    refine ⟨rfl, h φ' s' (back _ _ _ _ l) (X2.trans l.ext) _ ⟨Nat.lt_of_lt_of_le (Nat.lt_succ_self _) l.ext.1, ?_⟩⟩
    rw [l.ext.2 (H.next + 1) (Nat.lt_succ_self _)]
    exact congrArg Value.ref (show x = upφ (upφ φ H.next dx) (H.next + 1) x (H.next + 1) from (if_pos rfl).symm)
end
end Mine
end
-- M17
section
open PySem PySem.W PyProof.Rows PySem.Calls PySem.Spec
set_option Elab.async false
set_option linter.all false
namespace Mine
set_option maxRecDepth 100000
noncomputable def noteH (e : Nat) (C : Addr) (d : Option Nat) (cx : Bool) (H : Hp) : Hp := (H.push .tb).set e (.exc C d (some H.next) cx)
section
variable {w : World} {p : Program} {loose : List Str} {mean : ExcName → Option Value} {mg mb : Str → Option Value} {G0 : Heap} {lv : Nat} {st : Sta}

theorem frames_of {nh : Bool} {ks : List (Addr × Obj)} {A : Around} {fs : List (Addr × Obj)} {s : Shared} {φ : Nat → Addr} {H : Hp} {news : List (Addr × Obj)} : ∀ {outer : List Env}, (∀ e ∈ outer, e.scope.kind ≠ .module ∧ ∃ b o, e.frame = some b ∧ (b, o) ∈ fs) →
    (∀ q ∈ fs, s.heap.get? q.1 = some q.2 ∧ G0.get? q.1 = none ∧ (∃ es n, q.2.data = .dict es n) ∧ q.1 ∉ news.map (·.1)) → s.heap.FunFrames G0 outer
  | [], _, _ => trivial
  | env :: r, h1, h2 => by
    refine hide fun q9 b9 => ?_
    obtain ⟨k, b, o, hf, hm⟩ := h1 env (.head _)
    obtain ⟨q1, q2, ⟨es, n, q3⟩, _⟩ := h2 _ hm
    refine b9 ?_
    exact ⟨k, ⟨b, o, hf, q2, q1, fun vs e => by rw [q3] at e; cases e⟩, frames_of (nh := nh) (ks := ks) (A := A) (φ := φ) (H := H) (fun e he => h1 e (.tail _ he)) h2⟩
theorem get_push_ne {H : Hp} {i : Nat} {a b : AO} (h : H.get i = some a) (hl : i < H.next) : (H.push b).get i = some a := by
  show getO i ((H.next, b) :: H.cells) = some a
  rw [getO_cons, show (i == H.next) = false from by simp; lia]
  exact h
theorem tb_fields (head : Value) (L : Addr) {pl : List Value} : 3 < ([head, .ref L, .none, rawInt L, .none] ++ (if pl.isEmpty then List.replicate 6 Value.none else pl)).toArray.size := by
  simp only [List.size_toArray, List.length_append, List.length_cons, List.length_nil]; lia
/-- an entry is laid for the frame at hand -/
theorem X_entry (GD : Gd w p loose mean mg mb G0) {a : Act} {φ : Nat → Addr} {F : Frm} {H : Hp} {s : Shared} (ok : a.Ok st lv G0) (hcm : st.cm = false) (R : RelX w a φ F H s) {e : Nat} {C : Addr} {d tb : Option Nat} {cx : Bool} (he : H.get e = some (.exc C d tb cx)) {head : Value} {hadNext : Bool}
    {Q : Unit → Shared → Prop} {E : Value → Shared → Prop} (h : ∀ φ' s', RelX w a φ' F (noteH e C d cx H) s' → Ext φ H.next φ' (H.next + 1) → Q () s') :
    wpAny (model PR w) a.A (do let fr ← frameOf (a.env st); let pl ← entryPlaceOf a.fra hadNext; let b ← EntryCells.newEntry head fr .none (rawInt a.fra) .none pl; setField (.ref (φ e)) 1 b)
      (fun _ s' => wpAny (model PR w) a.A (setFlight (.ref (φ e)) none) Q E s') E s := by
  refine hide fun q9 b9 => ?_
  refine xe22 (call_out (lv := lv) GD ok R hcm) fun fs news B back => ?_
  have hl : s.heap.FunFrames G0 (a.env st :: a.outer) := frames_of (nh := st.nh) (ks := a.ks) (A := a.A) (φ := φ) (H := H) B.outer B.fs
  refine xe13 (B.lr.upd he) fun oe hoe hm hup0 => ?_
  refine b9 ?_
  have hget := (B.there _ hm).1
  obtain ⟨hd, ⟨vs, sl, rfl, h6, h1, h2⟩, htb⟩ := hoe
  have inF : ∀ b, b ∈ (a.env st :: a.outer).filterMap (·.frame) → b ∈ fs.map (·.1) := fun b hb => by
    refine xe12 (List.mem_filterMap.mp hb) fun env hv hf => ?_
    obtain ⟨_, b', o, hf', hm'⟩ := B.outer env hv
    rw [hf] at hf'; obtain rfl := Option.some.inj hf'
    exact List.mem_map_of_mem hm'
  have offF : ∀ q ∈ news, q.1 ∉ (a.env st :: a.outer).filterMap (·.frame) := fun q hq hb => by
    refine xe12 (List.mem_map.mp (inF _ hb)) fun y hy e' => ?_
    exact (B.fs y hy).2.2.2 (e' ▸ List.mem_map_of_mem hq)
  refine wpAny_bind (wpAny_frameOf_fun (ok.frames hcm).1 hl rfl fun h₁ hs₁ => ?_)
  refine wpAny_bind (wpAny_entryPlaceOf fun pl hpl => ?_)
  unfold EntryCells.newEntry newFields
  refine wpAny_bind (wpAny_newObj_type ?_ (hpl.sizeOk5 _ _ _ _ _))
  have he₁ : h₁.get? (φ e) = some _ := (hs₁.2.1 (φ e) (offF _ hm)).trans hget
  have he₂ := Heap.get?_push_of_some (h := h₁) { cls := .type "traceback", dict := none, data := .fields ([head, .ref a.fra, .none, rawInt a.fra, .none] ++ (if pl.isEmpty then List.replicate 6 Value.none else pl)).toArray } he₁
  refine wpAny_setField he₂ rfl (by rw [h6]; decide) ?_
  have hTe : h₁.objs.size ≠ φ e := Nat.ne_of_gt (Heap.lt_size he₁)
  have he₃ := Heap.get?_update_self (Obj.mapFields (·.setIfInBounds 1 (Value.ref h₁.objs.size))) he₂ rfl
  have hT₃ := (Heap.get?_update_other (h₁.push { cls := .type "traceback", dict := none, data := .fields ([head, .ref a.fra, .none, rawInt a.fra, .none] ++ (if pl.isEmpty then List.replicate 6 Value.none else pl)).toArray })
    (Obj.mapFields (·.setIfInBounds 1 (Value.ref h₁.objs.size))) (Ne.symm hTe)).trans (Heap.get?_push_size h₁ rfl)
  unfold setFlight
  have hv1 : (vs.setIfInBounds 1 (Value.ref h₁.objs.size))[1]? = some (.ref h₁.objs.size) := by simp [h6]
  refine wpAny_bind (wpAny_field he₃ rfl hv1 ?_)
  rw [if_pos (show (Value.ref h₁.objs.size != Value.none) = true from by simp)]
  refine wpAny_setField hT₃ rfl (tb_fields head a.fra) ?_
  have hT₄ := Heap.get?_update_self (Obj.mapFields (·.setIfInBounds 3 ((none : Option Addr).elim Value.none fun f => rawInt f))) hT₃ rfl
  have keep : ∀ b o, b ≠ φ e → h₁.get? b = some o →
      (((h₁.push { cls := .type "traceback", dict := none, data := .fields ([head, .ref a.fra, .none, rawInt a.fra, .none] ++ (if pl.isEmpty then List.replicate 6 Value.none else pl)).toArray }).update (φ e) (Obj.mapFields (·.setIfInBounds 1 (Value.ref h₁.objs.size)))).update h₁.objs.size
        (Obj.mapFields (·.setIfInBounds 3 ((none : Option Addr).elim Value.none fun f => rawInt f)))).get? b = some o := fun b o hbe hb => by
    rw [Heap.get?_update_other _ _ (Nat.ne_of_gt (Heap.lt_size hb)), Heap.get?_update_other _ _ (Ne.symm hbe)]
    exact Heap.get?_push_of_some _ hb
  have oldnone : ∀ b, s.heap.objs.size ≤ b → s.heap.get? b = none := fun b hb => by
    induction q : s.heap.get? b with
    | none => rfl
    | some o => exact absurd (Heap.lt_size q) (Nat.not_lt.mpr hb)
  have hsize : h₁.objs.size = s.heap.objs.size := hs₁.1
  obtain ⟨oT, hoT⟩ : ∃ oT, oT = (({ cls := .type "traceback", dict := none, data := .fields ([head, .ref a.fra, .none, rawInt a.fra, .none] ++ (if pl.isEmpty then List.replicate 6 Value.none else pl)).toArray } : Obj).mapFields (·.setIfInBounds 3 ((none : Option Addr).elim Value.none fun f => rawInt f))) := ⟨_, rfl⟩
  rw [← hoT] at hT₄
  have L1 := B.lr.push (a := .tb) (o := oT) (l := h₁.objs.size) (by rw [hoT]; exact ⟨_, rfl, by simp⟩) (fun q hq e' => by
    have := (B.there q hq).1
    rw [e', oldnone _ (Nat.le_of_eq hsize.symm)] at this; exact no_some9 this)
  have hlt := B.lr.idLt he
  have φe : upφ φ H.next h₁.objs.size e = φ e := if_neg (Nat.ne_of_lt hlt)
  refine hide fun q9 b9 => ?_
  refine xe13 (L1.upd (get_push_ne (b := .tb) he hlt)) fun o9 _ hm9 hup => ?_
  obtain ⟨n1, u1, l1⟩ := hup (a' := .exc C d (some H.next) cx) (o' := { cls := .ref C, dict := d.map φ, data := .fields (vs.setIfInBounds 1 (Value.ref h₁.objs.size)), slots := sl }) ⟨fun i hi => Nat.lt_succ_of_lt (hd i hi), ⟨_, sl, by
      induction d with
      | none => rfl
      | some i => show Obj.mk _ (some (φ i)) _ _ = Obj.mk _ (some (upφ φ H.next _ i)) _ _; rw [show upφ φ H.next h₁.objs.size i = φ i from if_neg (Nat.ne_of_lt (hd i rfl))], by rw [Array.size_setIfInBounds]; exact h6, by rw [hv1]; show _ = some (Value.ref (upφ φ H.next _ H.next)); rw [show upφ φ H.next h₁.objs.size H.next = h₁.objs.size from if_pos rfl], fun hc => by rw [Array.getElem?_setIfInBounds_ne (by decide)]; exact h2 hc⟩, fun t ht => by obtain rfl := Option.some.inj ht; exact Nat.lt_succ_self _⟩
  refine b9 ?_
  refine h (upφ φ H.next h₁.objs.size) _ (back _ _ _ n1 ⟨l1, fun q hq => ?_, .up, fun b o eb nb nf => ?_, fun q hq => ?_, rfl, rfl, rfl⟩) .up
  · rcases upd_mem u1 q hq with rfl | ⟨hq, hne⟩
    · rw [φe]
      exact ⟨(Heap.get?_update_other _ _ hTe).trans he₃, .inr (List.mem_map.mpr ⟨_, hm, rfl⟩)⟩
    · rw [φe] at hne
      rcases List.mem_cons.mp hq with rfl | hq
      · exact ⟨hT₄, .inl (oldnone _ (Nat.le_of_eq hsize.symm))⟩
      · exact ⟨keep _ _ hne ((hs₁.2.1 _ (offF q hq)).trans (B.there q hq).1), .inr (List.mem_map_of_mem hq)⟩
  · refine keep b o (fun q => nb (q ▸ List.mem_map_of_mem hm)) ((hs₁.2.1 b fun hb => nf (inF b hb)).trans eb)
  · refine hide fun q9 b9 => ?_
    refine xa4 (B.fs q hq) fun q1 _ q3 q4 => ?_
    refine xe1 (hs₁.2.2 q.1 q.2 q1) fun sl' z => ?_
    refine b9 ?_
    exact ⟨sl', keep _ _ (fun z' => q4 (z' ▸ List.mem_map_of_mem hm)) z⟩
theorem X_note (GD : Gd w p loose mean mg mb G0) {a : Act} {φ : Nat → Addr} {F : Frm} {H : Hp} {s : Shared} (ok : a.Ok st lv G0) (hcm : st.cm = false) (R : RelX w a φ F H s) {e : Nat} {C : Addr} {d tb : Option Nat} {cx : Bool} (he : H.get e = some (.exc C d tb cx)) (ht : ∀ t, tb = some t → H.get t = some .tb)
    {Q : Unit → Shared → Prop} {E : Value → Shared → Prop} (h : ∀ φ' s', RelX w a φ' F (noteH e C d cx H) s' → Ext φ H.next φ' (H.next + 1) → Q () s') :
    wpAny (model PR w) a.A (noteFrame (.ref (φ e)) (a.env st)) (fun _ s' => wpAny (model PR w) a.A (setFlight (.ref (φ e)) none) Q E s') E s := by
  have R0 := R
  refine hide fun q9 b9 => ?_
  refine xe3 (R) fun g m news r => ?_
  refine b9 ?_
  obtain ⟨oe, hm, hd, ⟨vs, sl, rfl, h6, h1, h2c⟩, htb⟩ := r.lr.get he
  have hget := (r.nw _ hm).1
  unfold noteFrame
  show wpAny _ _ (field (.ref (φ e)) 1 >>= _) _ _ s
  induction tb with
  | none =>
    dsimp only at h1
    refine wpAny_bind (wpAny_field hget rfl h1 ?_)
    rw [if_neg (by decide)]
    exact X_entry GD ok hcm R0 he h
  | some t =>
    refine wpAny_bind (wpAny_field hget rfl h1 ?_)
    dsimp only
    rw [if_pos (show (Value.ref (φ t) != Value.none) = true from by simp)]
    refine hide fun q9 b9 => ?_
    obtain ⟨ot, hmt, ts, hdt, h3⟩ := r.lr.get (ht t rfl)
    refine b9 ?_
    have hgt := (r.nw _ hmt).1
    refine wpAny_bind (wpAny_field hgt hdt h3 ?_)
    rw [if_neg (show ¬ ((Value.none == rawInt a.fra) = true) from by simp [rawInt])]
    refine wpAny_bind (wpAny_setField hgt hdt (Array.getElem?_eq_some_iff.mp h3).1 ?_)
    rw [Heap.update_setField_same _ _ _ _ _ _ hgt hdt h3]
    exact X_entry GD ok hcm R0 he h
end
end Mine
end
-- M18
section
open PySem PySem.W PyProof.Rows PySem.Calls PySem.Spec
set_option Elab.async false
set_option linter.all false
namespace Mine
set_option maxRecDepth 100000
/-- an exception leaves -/
noncomputable def leaveD (e : Nat) (H : Hp) : Res AV := match H.exc e with
  | some (C, d, none, cx) => .exc e (noteH e C d cx H)
  | some (C, d, some t, cx) => if H.isTb t then .exc e (noteH e C d cx H) else .stuck
  | none => .stuck
noncomputable def endD (r : RS) : Res AV := RS.rec (motive := fun _ => Res AV) (fun _ H' => .ok .none H') (fun v _ H' => .ok v H') (fun e _ H' => leaveD e H') .stuck (fun p _ ih => .guard p ih) r
noncomputable def fnD (ps : List Nat) (xtra : List (Nat × AV)) (ccs : List Nat) (D : Frm → Hp → RS) (xs : List AV) (H : Hp) : Res AV :=
  if xs.length = ps.length then endD (D ⟨(ps.zip xs ++ xtra).filter fun p => !(ccs.contains p.1), (cellsD (ps.zip xs ++ xtra) ccs H).1⟩ (cellsD (ps.zip xs ++ xtra) ccs H).2) else .stuck
section
variable {w : World} {p : Program} {loose : List Str} {mean : ExcName → Option Value} {mg mb : Str → Option Value} {G0 : Heap} {lv : Nat} {st : Sta}
theorem leave_ok (GD : Gd w p loose mean mg mb G0) {a : Act} (ok : a.Ok st lv G0) (hcm : st.cm = false) {ks fs news : List (Addr × Obj)} {s : Shared} {φ : Nat → Addr} {n : Nat} {R : Result → Shared → Prop} (back : ∀ φ' F' H' s', RelX w a φ' F' H' s' → Ext φ n φ' H'.next → ∃ news', Left w ks φ n news fs s φ' H' s' news')
    {x : Nat} {F' : Frm} {H' : Hp} (hp : PF w ks φ n news fs s (leaveD x H') R) {φ1 : Nat → Addr} {s1 : Shared} (R1 : RelX w a φ1 F' H' s1) (X1 : Ext φ n φ1 H'.next) (hlt : x < H'.next) :
    wpAny (model PR w) a.A (leaving (a.env st) (.ref (φ1 x))) (fun _ s'' => R (.error (.ref (φ1 x))) s'') (fun e' s'' => R (.error e') s'') s1 := by
  have fin : ∀ {C : Addr} {d tb : Option Nat} {cx : Bool}, H'.get x = some (.exc C d tb cx) → (∀ t, tb = some t → H'.get t = some .tb) → PF w ks φ n news fs s (.exc x (noteH x C d cx H')) R →
      wpAny (model PR w) a.A (leaving (a.env st) (.ref (φ1 x))) (fun _ s'' => R (.error (.ref (φ1 x))) s'') (fun e' s'' => R (.error e') s'') s1 := fun {C d tb cx} he ht hq => by
    unfold leaving
    refine wpAny_bind (X_note GD ok hcm R1 he ht fun φ2 s2 R2 X2 => ?_)
    refine xe1 (back _ _ _ _ R2 (X1.trans X2)) fun news' l => ?_
    have := hq φ2 s2 news' l (Nat.lt_succ_of_lt hlt)
    rw [X2.2 x hlt] at this
    exact this
  unfold leaveD at hp
  split at hp
  · rename_i e1; exact fin (Hp.exc_eq e1) (fun t ht => by exact no_some9 ht) hp
  · rename_i e1
    split at hp
    · rename_i e2; exact fin (Hp.exc_eq e1) (fun t' ht => by obtain rfl := Option.some.inj ht; exact Hp.isTb_eq e2) hp
    · exact hp.elim
  · exact hp.elim
theorem SF_intro (GD : Gd w p loose mean mg mb G0) {name qual : Str} {params : Arguments} {body : List Stmt} {scope : Scope} {dV kV doc pm cdv ct oc : Value} {an od : Option Addr} {osl : Array (Option Value)} {f : Addr}
    {ps : List Nat} {names : List Str} {xtra : List (Nat × AV)} {xv : List (Str × Value)} {ccs : List Nat} {D : Frm → Hp → RS}
    (ho : (hd.heap_39 w.params).lookup f = some ⟨oc, od, .func (fnOf name qual params body scope dV kV doc pm an cdv ct), osl⟩) (hcd : codeIn (hd.heap_39 w.params) cdv qual = true)
    (hb : ∀ vs : List Value, vs.length = names.length → ∀ s : Shared, (hd.heap_39 w.params).In s.heap → BindsTo s (fnOf name qual params body scope dV kV doc pm an cdv ct) ⟨vs, []⟩ (names.zip vs ++ xv))
    (hps : All2 KN ps names) (hxv : ∀ φ n, All2 (BR φ n) xtra xv)
    (hnd : (names ++ xv.map (·.1)).Nodup) (hkd : ((names ++ xv.map (·.1)).all fun y => scope.names.lookup y == some .local || scope.names.lookup y == some .cell) = true)
    (hcc : All2 (fun c q => KN c q.1) ccs (cellsFrom 0 scope.names [])) (hck : ((cellsFrom 0 scope.names []).all fun q => scope.names.lookup q.1 == some .cell) = true) (hcn : ((cellsFrom 0 scope.names []).map (·.1)).Nodup)
    {nh : Bool} (h : SSs w G0 lv ⟨qual, scope, some f, cdv, nh, false⟩ body D)
    (hco : scope.isCoroutine = false) (hgen : scope.isGenerator = false) (hk : scope.kind = .function) : SF w G0 (lv + 1) nh (.ref f) (fnD ps xtra ccs D) := by
  intro ks A outer fs s φ H news R xs vs B hx hp
  unfold fnD at hp
  split at hp
  · rename_i hlen
    have hX : (hd.heap_39 w.params).In s.heap := GD.X.keeps B.stays
    have hlim := GD.T.nolimit.keeps B.stays
    have bv : All2 (BR φ H.next) (ps.zip xs ++ xtra) (names.zip vs ++ xv) := all2_app (binds_vr hps hx) (hxv φ H.next)
    have hvl : vs.length = names.length := by rw [← hx.length, hlen]; exact hps.length
    have hkeys : (names.zip vs ++ xv).map (·.1) = names ++ xv.map (·.1) := by rw [List.map_append, zip_names hvl]
    have hkind : ((names.zip vs ++ xv).all fun y => scope.names.lookup y.1 == some .local || scope.names.lookup y.1 == some .cell) = true := by
      rw [← hkd, ← hkeys, List.all_map]; rfl
    have hbb := hb vs hvl s hX
    generalize hbE : names.zip vs ++ xv = binds at *
    generalize hbA : ps.zip xs ++ xtra = b at *
    refine codeAny_call_function (fd := fnOf name qual params body scope dV kV doc pm an cdv ct) (by have := B.depth; lia) (hX _ _ ho) rfl hco hgen rfl (codeRec_of hX hcd) (hbb _ _ _ _ ?_)
    refine wpAny_newFunctionEnv_cells hk (kindsX hkind _) fun env' he s' x => ?_
    subst he
    refine ⟨hlim.keeps x.toInCall.keep, codeAny_func ?_⟩
    obtain ⟨h₁, tk, rfl, _⟩ := x.done
    have hk₁ := x.toInCall.keep
    have hcl0 : (cellsFrom (s.heap.objs.size + 1) scope.names []).map (·.1) = (cellsFrom 0 scope.names []).map (·.1) := cellsFrom_names scope.names _ _ [] [] rfl
    have hmemN : ∀ n c, (n, c) ∈ cellsFrom (s.heap.objs.size + 1) scope.names [] → scope.names.lookup n = some .cell := fun n c hm => by
      have : n ∈ (cellsFrom 0 scope.names []).map (·.1) := hcl0 ▸ List.mem_map_of_mem hm
      obtain ⟨q, hq, rfl⟩ := List.mem_map.mp this
      exact beq_iff_eq.mp (List.all_eq_true.mp hck q hq)
    refine xe12 (Cl.news (h₀ := s.heap) (Nat.le_refl _) fun n c hm => ⟨x.cell n c (lookup_of_mem_nodup (hcl0 ▸ hcn) hm), x.above n c hm⟩) fun cells NC Y => ?_
    have hns := x.toInCall.ns
    have hnd' : (binds.map (·.1)).Nodup := by rw [hkeys]; exact hnd
    have hcc' : All2 (fun c (q : Str × Addr) => KN c q.1) ccs (cellsFrom (s.heap.objs.size + 1) scope.names []) := by
      have go : ∀ {l : List Nat} {r r' : List (Str × Addr)}, All2 (fun c (q : Str × Addr) => KN c q.1) l r → r'.map (·.1) = r.map (·.1) → All2 (fun c (q : Str × Addr) => KN c q.1) l r' := by
        intro l r r' h
        induction h generalizing r' with
        | nil => intro e; induction r' with | nil => exact .nil | cons _ _ => contradiction
        | cons hd _ ih => intro e; induction r' with
          | nil => contradiction
          | cons y ys => rw [List.map_cons, List.map_cons] at e; obtain ⟨e1, e2⟩ := List.cons.inj e; exact .cons (by rw [e1]; exact hd) (ih e2)
      exact go hcc hcl0
    obtain ⟨φ', L', X', A'⟩ := cellsD_ok B.lr bv Y (fun n c hm => by
        rw [bindC_at (fun z => by rw [show Env.kindOf _ n = scope.names.lookup n from rfl, hmemN n c hm] at z; contradiction) hnd']
        induction binds.lookup n <;> rfl) x.apart (fun n c hm q hq e => by
        have := x.above n c hm
        have h2 := Heap.lt_size (B.there q hq).1
        rw [e] at h2
        exact Nat.lt_irrefl _ (Nat.lt_trans (show s.heap.objs.size < c from this) h2)) hcc'
    let st : Sta := ⟨qual, scope, some f, cdv, nh, false⟩
    let a : Act := { L := s.heap.objs.size, fra := s.heap.objs.size, cl := cellsFrom (s.heap.objs.size + 1) scope.names [], A := A.deeper (envX qual scope s.heap.objs.size f cdv (cellsFrom (s.heap.objs.size + 1) scope.names [])), outer := outer, fs := fs, B := hideAll s.heap (news.map (·.1)), S := s, ks := ks }
    have ok : a.Ok st lv G0 := ⟨B.handled, fun _ => ⟨by show Option.map _ A.frames = _; rw [B.frames]; rfl, rfl⟩, by have := B.depth; show A.depth + 1 + 5 * lv < _; lia, by have := B.units; show A.units + 3 + 50 * lv < _; lia, B.outer, hk,
      fun q hq => ⟨hideAll_get _ (B.fs q hq).1 (B.fs q hq).2.2.2, (B.fs q hq).2.1, (B.fs q hq).2.2.1⟩, stays_hide B.stays fun q hq => (B.there q hq).2⟩
    have gnone : ∀ q ∈ cells, (hideAll s.heap (news.map (·.1))).get? q.1 = none := fun q hq => by
      cases e : (hideAll s.heap (news.map (·.1))).get? q.1 with
      | none => rfl
      | some o => have := of_hideAll _ e; rw [(NC q hq).2.2] at this; exact no_some9 this
    have R0 : RelX w a φ' ⟨b.filter fun p => !(ccs.contains p.1), (cellsD b ccs H).1⟩ (cellsD b ccs H).2 { s with heap := h₁, toks := tk } :=
      ⟨hideAll s.heap (news.map (·.1)), _, cells ++ news, ⟨⟨hns, fun b o e => hk₁ b o (of_hideAll _ e), Nat.le_of_eq (hideAll_size _ _)⟩,
        fun y hy => by
          rcases List.mem_append.mp hy with hy | hy
          · exact ⟨(NC y hy).1, (NC y hy).2.1, gnone y hy⟩
          · exact ⟨hk₁ _ _ (B.there y hy).1, Nat.ne_of_lt (Heap.lt_size (B.there y hy).1), hideAll_none _ (List.mem_map_of_mem hy)⟩, L', fun c x v hc e => by
          refine xa2 (lookup_filter e) fun e1 e2 => ?_
          have z := binds_at hc bv
          rw [e1] at z
          refine xe12 (z) fun u h1 h2 => ?_
          refine ⟨u, ?_, h2.ext X'⟩
          have hm := List.all_eq_true.mp hkind (x, u) (by
            have go : ∀ {l : List (Str × Value)}, l.lookup x = some u → (x, u) ∈ l := by
              intro l
              induction l with
              | nil => intro e; exact no_some9 e
              | cons y l ih =>
                intro e
                rw [List.lookup_cons] at e
                by_cases q : x = y.1
                · rw [q, beq_self_eq_true] at e; obtain rfl := Option.some.inj e; rw [q]; exact .head _
                · rw [show (x == y.1) = false from by simpa using q] at e; exact .tail _ (ih e)
            exact go h1)
          have hloc : scope.names.lookup x = some .local := by
            rcases Bool.or_eq_true_iff.mp hm with q | q
            · exact beq_iff_eq.mp q
            · exfalso
              have q' : scope.names.lookup x = some .cell := beq_iff_eq.mp q
              have hs := cellsFrom_some scope.names 0 [] (.inl q')
              have go : ∀ {l : List Nat} {r : List (Str × Addr)}, All2 (fun c (q : Str × Addr) => KN c q.1) l r → (r.lookup x).isSome = true → l.contains c = true := by
                intro l r h
                induction h with
                | nil => intro e; exact no_true9 e
                | @cons k q l r hd _ ih =>
                  intro e
                  obtain ⟨y, a⟩ := q
                  rw [List.lookup_cons] at e
                  rw [List.contains_cons]
                  by_cases z : x = y
                  · rw [(hc.inj hd).mp z, beq_self_eq_true, Bool.true_or]
                  · rw [show (x == y) = false from by simpa using z] at e; rw [ih e, Bool.or_true]
              rw [go hcc hs] at e2; contradiction
          rw [bindL_at hnd', show Env.kindOf _ x = scope.names.lookup x from rfl, hloc, if_pos rfl, h1], A', KtsTurn.refl, ⟨rfl, rfl, rfl⟩⟩⟩
    have back : ∀ φ2 F2 H2 s2, RelX w a φ2 F2 H2 s2 → Ext φ H.next φ2 H2.next → ∃ news', Left w ks φ H.next news fs s φ2 H2 s2 news' := fun φ2 F2 H2 s2 R2 X2 => out_of (a := a) rfl rfl rfl (fun q hq => ⟨(B.fs q hq).1, (B.fs q hq).2.2.2⟩) R2 X2
    refine h a φ' _ _ _ _ _ ok R0 OwnE.leaving ?_
    generalize D _ _ = rr at hp
    induction rr with
    | guard p r ih => exact ⟨hp.1, ih hp.2⟩
    | nx F' H' =>
      intro φ2 s2 R2 X2
      refine xe1 (back _ _ _ _ R2 (X'.trans X2)) fun news' l => ?_
      exact hp φ2 s2 news' .none l rfl
    | ret v F' H' =>
      intro φ2 s2 u R2 X2 hu
      refine xe1 (back _ _ _ _ R2 (X'.trans X2)) fun news' l => ?_
      exact hp φ2 s2 news' u l hu
    | exc x F' H' => exact fun φ2 s2 R2 X2 hlt => leave_ok (st := st) GD ok rfl back hp R2 (X'.trans X2) hlt
    | stuck => exact hp.elim
  · exact hp.elim
end
end Mine
end
-- M19
section
open PySem PySem.W PyProof.Rows PySem.Calls PySem.Spec
set_option Elab.async false
set_option linter.all false
namespace Mine
set_option maxRecDepth 100000
section
variable {w : World} {p : Program} {loose : List Str} {mean : ExcName → Option Value} {mg mb : Str → Option Value} {G0 : Heap} {lv : Nat} {st : Sta}

theorem Rel.grow {a : Act} {φ : Nat → Addr} {F : Frm} {H : Hp} {s : Shared} {g : Heap} {m : Str → Option Value} {news : List (Addr × Obj)} (r : Rel w a φ F H s g m news) {h' : Heap} {k : Nat} (hk : ∀ b o, s.heap.get? b = some o → h'.get? b = some o) :
    RelX w a φ F H { s with heap := h', toks := k } := ⟨g, m, news, ⟨r.fr.keeps hk, r.nw.grown hk, r.lr, r.loc, r.cl, r.turn, r.same⟩⟩
/-- the same call, an exception under way -/
noncomputable abbrev Act.hd (a : Act) (x : Addr) : Act := { a with A := a.A.mark (some (.ref x)) }
noncomputable abbrev Sta.hd (st : Sta) : Sta := { st with nh := false }
theorem RelX.hd {a : Act} {φ : Nat → Addr} {F : Frm} {H : Hp} {s : Shared} (x : Addr) (R : RelX w a φ F H s) : RelX w (a.hd x) φ F H s := by
  obtain ⟨g, m, n, r⟩ := R; exact ⟨g, m, n, ⟨r.fr, r.nw, r.lr, r.loc, r.cl, r.turn, r.same⟩⟩
theorem RelX.un {a : Act} {φ : Nat → Addr} {F : Frm} {H : Hp} {s : Shared} {x : Addr} (R : RelX w (a.hd x) φ F H s) : RelX w a φ F H s := by
  obtain ⟨g, m, n, r⟩ := R; exact ⟨g, m, n, ⟨r.fr, r.nw, r.lr, r.loc, r.cl, r.turn, r.same⟩⟩
theorem Act.Ok.hd {a : Act} (x : Addr) (ok : a.Ok st lv G0) : (a.hd x).Ok st.hd lv G0 := ⟨fun h => (Bool.false_ne_true h).elim, ok.frames, ok.depth, ok.units, ok.outer, ok.kind, ok.fs, ok.stays⟩

/-- facts of a class of exceptions -/
structure XC (w : World) (C : Addr) : Prop where
  base : subIn (hd.heap_39 w.params) (.ref C) (.type "BaseException") = some true
  meta_ : typeIn (hd.heap_39 w.params) (.ref C) = some (.type "type")
theorem looks_cls {M : Model} {h : Heap} {x C : Addr} {dd : Option Addr} {dt : Data} {sl : Array (Option Value)} (e : h.get? x = some ⟨.ref C, dd, dt, sl⟩) : Looks M h (typeOf (.ref x)) (.ref C) := (Looks.ld e).andThen .now
theorem looks_notType {M : Model} {h : Heap} {x C : Addr} {dd : Option Addr} {vs : Array Value} {sl : Array (Option Value)} (e : h.get? x = some ⟨.ref C, dd, .fields vs, sl⟩) : Looks M h (isType (.ref x)) false := (Looks.ld e).andThen .now
theorem raise_core {M : Model} {A : Around} {E : Value → Shared → Prop} {s : Shared} {x C : Addr} {dd : Option Addr} {vs : Array Value} {sl : Array (Option Value)} {Q : Value → Shared → Prop} {msg : String} (c : XC w C) (X : (hd.heap_39 w.params).In s.heap) (e : s.heap.get? x = some ⟨.ref C, dd, .fields vs, sl⟩) (h : Q (.ref x) s) :
    wpAny M A (excFromValue (.ref x) msg) Q E s := by
  unfold excFromValue isExcClass
  refine wpAny_bind (wpAny_bind ((looks_notType e).here ?_))
  rw [if_neg (by decide)]
  refine wpAny_pure ?_
  rw [if_neg (by decide)]
  unfold isInstance
  refine wpAny_bind (wpAny_bind ((looks_cls e).here ((looks_subIn X c.base).here ?_)))
  rw [if_pos rfl]
  exact wpAny_pure h
theorem raise_inst {M : Model} {A : Around} {E : Value → Shared → Prop} {s : Shared} {x C : Addr} {dd : Option Addr} {vs : Array Value} {sl : Array (Option Value)} {Q : Value → Shared → Prop} (c : XC w C) (X : (hd.heap_39 w.params).In s.heap) (e : s.heap.get? x = some ⟨.ref C, dd, .fields vs, sl⟩) (h : Q (.ref x) s) :
    wpAny M A (raisedInstance (.ref x)) Q E s := by
  unfold raisedInstance
  refine wpAny_bind ((looks_cls e).here (wpAny_bind ((looks_typeIn X c.meta_).here ?_)))
  rw [if_pos (by decide)]
  exact wpAny_pure h
theorem flight_none {M : Model} {A : Around} {E : Value → Shared → Prop} {s : Shared} {x : Addr} {o : Obj} {vs : Array Value} {Q : Unit → Shared → Prop} {f : Option Addr} (e : s.heap.get? x = some o) (hd : o.data = .fields vs) (h1 : vs[1]? = some .none) (h : Q () s) : wpAny M A (setFlight (.ref x) f) Q E s := by
  unfold setFlight
  refine wpAny_bind (wpAny_field e hd h1 ?_)
  rw [if_neg (by decide)]
  exact wpAny_pure h
noncomputable def tRaise (cs : List Addr) (D : Frm → Hp → Res AV) : Frm → Hp → RS := fun F H => (D F H).toS F fun v H1 => match v with
  | .ref i => (match H1.exc i with
    | some (C, _, none, _) => if C ∈ cs then .exc i F H1 else .stuck
    | _ => .stuck)
  | _ => .stuck
theorem T_raise (GD : Gd w p loose mean mg mb G0) {x : Expr} {pos : Pos} {cs : List Addr} {D : Frm → Hp → Res AV} (hnh : st.nh = true) (hc : ∀ C ∈ cs, XC w C) (h1 : SE w G0 lv st x D)
    (he : ∀ env : Env, exec (.Raise (some x) none pos) env = (do standAt pos; raiseStmt env (some (do let v ← eval x env; standAt pos; pure v)) none)) : SS w G0 lv st (.Raise (some x) none pos) (tRaise cs D) := fun a φ F H s Q E ok R hE h => by
  rw [he]
  refine wpAny_bind (wpAny_standAt ?_)
  unfold raiseStmt
  refine wpAny_bind (wpAny_bind (h1 a φ F H s _ E ok R (PS.ofE h fun v φ1 H1 s1 R1 X1 h' u hu => wpAny_bind (wpAny_standAt (wpAny_pure ?_)))))
  split at h'
  · rename_i i
    obtain ⟨hi, rfl⟩ := hu
    split at h'
    · rename_i C d cx e1
      split at h'
      · rename_i hC
        refine xe3 (id R1) fun g m news r => ?_
        obtain ⟨oe, hm, hd', ⟨vs, sl, rfl, h6, hv1, hv2⟩, htb⟩ := r.lr.get (Hp.exc_eq e1)
        have hget := (r.nw _ hm).1
        have X := (GD.X.keeps (ok.base r.turn)).keeps r.fr.keep
        refine wpAny_bind (wpAny_pure ?_)
        refine wpAny_bind (wpAny_holding (raise_core (hc C hC) X hget ?_))
        refine wpAny_bind ((looks_notType hget).here ?_)
        rw [if_neg (by decide)]
        refine wpAny_bind (raise_inst (hc C hC) X hget ?_)
        refine wpAny_bind (flight_none hget rfl hv1 ?_)
        exact wpAny_raiseNew_none (ok.handled hnh) (h' φ1 s1 R1 .refl hi)
      · exact h'.elim
    · exact h'.elim
  · exact h'.elim
end
end Mine
end
-- M20
section
open PySem PySem.W PyProof.Rows PySem.Calls PySem.Spec
set_option Elab.async false
set_option linter.all false
namespace Mine
set_option maxRecDepth 100000
section
variable {w : World} {p : Program} {loose : List Str} {mean : ExcName → Option Value} {mg mb : Str → Option Value} {G0 : Heap} {lv : Nat} {st : Sta}

/-- the type of a clause -/
noncomputable def SX (w : World) (G0 : Heap) (lv : Nat) (st : Sta) (t : Expr) (sel : Addr → Option Bool) : Prop :=
  ∀ (a : Act) (φ : Nat → Addr) (F : Frm) (H : Hp) (s : Shared) (Q : Bool → Shared → Prop) (E : Value → Shared → Prop) (e : Nat) (C : Addr) (d tb : Option Nat) (cx b : Bool), a.Ok st lv G0 → RelX w a φ F H s → H.get e = some (.exc C d tb cx) → sel C = some b →
    (∀ φ' s', RelX w a φ' F H s' → Ext φ H.next φ' H.next → Q b s') → wpAny (model PR w) a.A (eval t (a.env st)) (fun c s1 => wpAny (model PR w) a.A (excMatches (.ref (φ e)) c) Q E s1) E s
theorem exc_look {M : Model} {a : Act} {φ : Nat → Addr} {F : Frm} {H : Hp} {s : Shared} (R : RelX w a φ F H s) {e : Nat} {C : Addr} {d tb : Option Nat} {cx : Bool} (he : H.get e = some (.exc C d tb cx)) : Looks M s.heap (typeOf (.ref (φ e))) (.ref C) := by
  refine xe3 (R) fun g m news r => ?_
  obtain ⟨oe, hm, hd', ⟨vs, sl, rfl, _⟩, _⟩ := r.lr.get he
  exact looks_cls (r.nw _ hm).1
theorem kin_of (GD : Gd w p loose mean mg mb G0) {a : Act} {φ : Nat → Addr} {F : Frm} {H : Hp} {s : Shared} (ok : a.Ok st lv G0) (R : RelX w a φ F H s) : (hd.heap_39 w.params).In s.heap := by
  refine xe3 (R) fun g m news r => ?_
  exact (GD.X.keeps (ok.base r.turn)).keeps r.fr.keep
theorem lookup_mem {α : Type} : ∀ {l : List (Addr × α)} {C : Addr} {b : α}, l.lookup C = some b → (C, b) ∈ l
  | [], _, _, e => by exact no_some9 e
  | (k, v) :: l, C, b, e => by
    rw [List.lookup_cons] at e
    by_cases h : C = k
    · subst h; rw [beq_self_eq_true] at e; obtain rfl := Option.some.inj e; exact .head _
    · rw [show (C == k) = false from by simpa using h] at e; exact .tail _ (lookup_mem e)
theorem X_one (GD : Gd w p loose mean mg mb G0) {t : Expr} {c : Addr} {tab : List (Addr × Bool)} (h : SE w G0 lv st t (fun _ H => .ok (.glob c) H)) (ht : ∀ q ∈ tab, exmOne (hd.heap_39 w.params) (.ref q.1) (.ref c) = some q.2) : SX w G0 lv st t (fun C => tab.lookup C) :=
  fun a φ F H s Q E e C d tb cx b ok R he hs hq => h a φ F H s _ E ok R fun φ1 s1 R1 X1 v hv => by
    subst hv
    have hlt : e < H.next := by obtain ⟨g, m, news, r⟩ := R; exact r.lr.idLt he
    rw [← X1.2 e hlt]
    exact (exm_one (kin_of GD ok R1) (exc_look R1 he) (ht _ (lookup_mem hs))).here (hq φ1 s1 R1 X1)
theorem X_two (GD : Gd w p loose mean mg mb G0) {t1 t2 : Expr} {c1 c2 : Addr} {k : Nat} {pos : Pos} {tab : List (Addr × Bool)} (h1 : SE w G0 lv st t1 (fun _ H => .ok (.glob c1) H)) (h2 : SE w G0 lv st t2 (fun _ H => .ok (.glob c2) H))
    (ht : ∀ q ∈ tab, exmAny (hd.heap_39 w.params) (.ref q.1) [.ref c1, .ref c2] = some q.2)
    (n1 : ∀ env : Env, starEach [t1, t2] env = (false, eval t1 env) :: starEach [t2] env := by intro; rfl) (n2 : ∀ env : Env, starEach [t2] env = (false, eval t2 env) :: starEach [] env := by intro; rfl) : SX w G0 lv st (.Tuple [t1, t2] k pos) (fun C => tab.lookup C) :=
  fun a φ F H s Q E e C d tb cx b ok R he hs hq => by
    refine Tuple_ (args_cons (h1 a φ F H s _ E ok R fun φ1 s1 R1 X1 v hv => args_cons (h2 a φ1 F H s1 _ E ok R1 fun φ2 s2 R2 X2 v2 hv2 => args_nil ?_) (n2 _)) (n1 _))
    subst hv
    subst hv2
    have hlt : e < H.next := by obtain ⟨g, m, news, r⟩ := R; exact r.lr.idLt he
    have φe : φ2 e = φ e := (X2.2 e hlt).trans (X1.2 e hlt)
    unfold newTuple
    refine wpAny_newObj_type ?_ (by size_fits)
    have kp : ∀ q o, s2.heap.get? q = some o → (s2.heap.push { cls := .type "tuple", data := .seq [.ref c1, .ref c2].toArray }).get? q = some o := fun _ _ z => Heap.get?_push_of_some _ z
    rw [← φe]
    refine (exm_tup2 ((kin_of GD ok R2).keeps kp) ((exc_look R2 he).keeps kp) (Heap.get?_push_size s2.heap rfl) (ht _ (lookup_mem hs))).here ?_
    refine xe3 (R2) fun g m news r => ?_
    exact hq φ2 _ (r.grow (k := s2.toks) kp) (X1.trans X2)

/-- clauses -/
noncomputable def SH (w : World) (G0 : Heap) (lv : Nat) (st : Sta) (hs : List ExceptHandler) (D : Nat → Addr → Frm → Hp → RS) : Prop :=
  ∀ (a : Act) (φ : Nat → Addr) (F : Frm) (H : Hp) (s : Shared) (Q : Flow → Shared → Prop) (E : Value → Shared → Prop) (e : Nat) (C : Addr) (d : Option Nat) (tb : Nat) (cx : Bool), a.Ok st lv G0 → RelX w a φ F H s → OwnE (model PR w) a.A (a.env st) E → H.get e = some (.exc C d (some tb) cx) → H.get tb = some .tb →
    PS w a φ H.next (D e C F H) Q E → wpAny (model PR w) a.A (handleBy (.ref (φ e)) (a.env st) hs) Q E s
noncomputable def hN : Nat → Addr → Frm → Hp → RS := fun _ _ _ _ => .stuck
noncomputable def hC (sel : Addr → Option Bool) (D : Frm → Hp → RS) (D' : Nat → Addr → Frm → Hp → RS) : Nat → Addr → Frm → Hp → RS := fun e C F H => match sel C with
  | some true => D F H
  | some false => D' e C F H
  | none => .stuck
theorem H_nil : SH w G0 lv st [] hN := fun a φ F H s Q E e C d tb cx ok R hE he ht h => h.elim
theorem PS.un {a : Act} {x : Addr} {φ : Nat → Addr} {n : Nat} {r : RS} {Q : Flow → Shared → Prop} {E : Value → Shared → Prop} (h : PS w a φ n r Q E) : PS w (a.hd x) φ n r Q E := by
  induction r with
  | guard p r ih => exact ⟨h.1, ih h.2⟩
  | nx F H => exact fun φ' s' R X => h φ' s' R.un X
  | ret v F H => exact fun φ' s' u R X => h φ' s' u R.un X
  | exc e F H => exact fun φ' s' R X => h φ' s' R.un X
  | stuck => exact h
theorem flight_tb {M : Model} {A : Around} {E : Value → Shared → Prop} {a : Act} {φ : Nat → Addr} {F : Frm} {H : Hp} {s : Shared} (R : RelX w a φ F H s) {e : Nat} {C : Addr} {d : Option Nat} {tb : Nat} {cx : Bool} (he : H.get e = some (.exc C d (some tb) cx)) (ht : H.get tb = some .tb) {Q : Unit → Shared → Prop} (h : Q () s) :
    wpAny M A (setFlight (.ref (φ e)) none) Q E s := by
  refine xe3 (R) fun g m news r => ?_
  obtain ⟨oe, hm, hd', ⟨vs, sl, rfl, h6, hv1, _⟩, _⟩ := r.lr.get he
  obtain ⟨ot, hmt, ts, hdt, h3⟩ := r.lr.get ht
  unfold setFlight
  dsimp only at hv1
  refine wpAny_bind (wpAny_field (r.nw _ hm).1 rfl hv1 ?_)
  rw [if_pos (show (Value.ref (φ tb) != Value.none) = true from by simp)]
  refine wpAny_setField (r.nw _ hmt).1 hdt (Array.getElem?_eq_some_iff.mp h3).1 ?_
  rw [show (none : Option Addr).elim Value.none (fun f => rawInt f) = Value.none from rfl, Heap.update_setField_same _ _ _ _ _ _ (r.nw _ hmt).1 hdt h3]
  exact h
theorem H_cons {t : Expr} {b₀ : Stmt} {suite : List Stmt} {pos : Pos} {rest : List ExceptHandler} {sel : Addr → Option Bool} {D : Frm → Hp → RS} {D' : Nat → Addr → Frm → Hp → RS} (hx : SX w G0 lv st.hd t sel) (h1 : SSs w G0 lv st.hd (b₀ :: suite) D) (h2 : SH w G0 lv st rest D') :
    SH w G0 lv st (.ExceptHandler (some t) none (b₀ :: suite) pos :: rest) (hC sel D D') := fun a φ F H s Q E e C d tb cx ok R hE he ht h => by
  have hlt : e < H.next := by obtain ⟨g, m, news, r⟩ := R; exact r.lr.idLt he
  have hE' := hE (a.hd (φ e)).A a.A (SameStack.mark _ _)
  unfold hC at h
  induction hs : sel C with
  | none => rw [hs] at h; exact h.elim
  | some b =>
    rw [hs] at h
    refine wpAny_handleBy_cons (codeAny_handlers_test (wpAny_mono (E := fun _ _ => False) (hx (a.hd (φ e)) φ F H s _ _ e C d (some tb) cx b (ok.hd _) (R.hd _) he hs fun φ1 s1 R1 X1 => ?_) (fun _ _ z => wpAny_mono z (fun _ _ z => z) (fun _ _ z => z.elim)) (fun _ _ z => z.elim))) (by intro q; contradiction)
    induction b with
    | false =>
      have := h2 a φ1 F H s1 Q E e C d tb cx ok R1.un hE he ht (PS.weak h X1)
      rw [X1.2 e hlt] at this
      exact this
    | true =>
      refine codeAny_handlers_suite ?_
      rw [← X1.2 e hlt]
      refine flight_tb R1 he ht ?_
      rw [X1.2 e hlt]
      exact wpAny_mono (h1 (a.hd (φ e)) φ1 F H s1 Q E (ok.hd _) R1 hE.mark (PS.un (PS.weak h X1))) (fun _ _ z => z) (fun x s' z => hE' x s' z)
end
end Mine
end
-- M21
section
open PySem PySem.W PyProof.Rows PySem.Calls PySem.Spec
set_option Elab.async false
set_option linter.all false
namespace Mine
set_option maxRecDepth 100000
section
variable {w : World} {p : Program} {loose : List Str} {mean : ExcName → Option Value} {mg mb : Str → Option Value} {G0 : Heap} {lv : Nat} {st : Sta}
noncomputable def noLoc : RS → RS
  | .nx F H => .nx { F with loc := [] } H
  | .ret v F H => .ret v { F with loc := [] } H
  | _ => .stuck
noncomputable def hA (n : Nat) (sel : Addr → Option Bool) (D : Frm → Hp → RS) (D' : Nat → Addr → Frm → Hp → RS) : Nat → Addr → Frm → Hp → RS := fun e C F H => match sel C with
  | some true => noLoc (D { F with loc := putS n (.ref e) F.loc } H)
  | some false => D' e C F H
  | none => .stuck
theorem goes {a : Act} {φ : Nat → Addr} {F : Frm} {H : Hp} {s : Shared} {n : Str} {pos : Pos} {Q : Unit → Shared → Prop} {E : Value → Shared → Prop} (R : RelX w a φ F H s) (hk : st.scope.kind = .function) (hx : st.scope.names.lookup n = some .local)
    (h : ∀ s', RelX w a φ { F with loc := [] } H s' → Q () s') : wpAny (model PR w) a.A (do bindName (a.env st) n .none; unbindBehindTheSuite (a.env st) n pos) Q E s := by
  refine xe3 (R) fun g m news r => ?_
  refine wpAny_nameGoes (m := m) (by show Env.kindOf _ _ = _; simpa [Env.kindOf] using hx) r.fr.ns (by show ((st.scope.kind == _) || (st.scope.kind == _ && _)) = false; rw [hk]; rfl) fun h' m' hn hs => h _ ⟨g, m', news, ⟨r.fr.set hn hs, r.nw.set hs, r.lr, (fun c x v hc e => by exact no_some9 e), r.cl, r.turn, r.same⟩⟩
theorem H_as {t : Expr} {k : Nat} {n : Str} (hkn : KN k n) {b₀ : Stmt} {suite : List Stmt} {pos : Pos} {rest : List ExceptHandler} {sel : Addr → Option Bool} {D : Frm → Hp → RS} {D' : Nat → Addr → Frm → Hp → RS} (hnl : st.scope.names.lookup n = some .local) (hx : SX w G0 lv st.hd t sel) (h1 : SSs w G0 lv st.hd (b₀ :: suite) D) (h2 : SH w G0 lv st rest D') :
    SH w G0 lv st (.ExceptHandler (some t) (some n) (b₀ :: suite) pos :: rest) (hA k sel D D') := fun a φ F H s Q E e C d tb cx ok R hE he ht h => by
  have hlt : e < H.next := by obtain ⟨g, m, news, r⟩ := R; exact r.lr.idLt he
  unfold hA at h
  induction hs : sel C with
  | none => rw [hs] at h; exact h.elim
  | some b =>
    rw [hs] at h
    refine wpAny_handleBy_cons (codeAny_handlers_test (wpAny_mono (E := fun _ _ => False) (hx (a.hd (φ e)) φ F H s _ _ e C d (some tb) cx b (ok.hd _) (R.hd _) he hs fun φ1 s1 R1 X1 => ?_) (fun _ _ z => wpAny_mono z (fun _ _ z => z) (fun _ _ z => z.elim)) (fun _ _ z => z.elim))) (by intro q; contradiction)
    induction b with
    | false =>
      have := h2 a φ1 F H s1 Q E e C d tb cx ok R1.un hE he ht (PS.weak h X1)
      rw [X1.2 e hlt] at this
      exact this
    | true =>
      refine codeAny_handlers_suite_as ?_
      rw [← X1.2 e hlt]
      refine flight_tb R1 he ht ?_
      rw [X1.2 e hlt]
      refine N_loc (st := st.hd) hkn hnl (a.hd (φ e)) φ1 F H s1 _ _ (.ref e) (.ref (φ e)) (ok.hd _) R1 ⟨hlt, by rw [X1.2 e hlt]⟩ ?_
      intro φ2 s2 R2 X2
      dsimp only at h
      refine wpAny_mono (E := fun _ _ => False) (h1 (a.hd (φ e)) φ2 { F with loc := putS k (.ref e) F.loc } H s2 _ _ (ok.hd _) R2 OwnE.never ?_) (fun _ _ z => z) (fun _ _ z => z.elim)
      induction e3 : D { F with loc := putS k (.ref e) F.loc } H with
      | stuck => rw [e3] at h; exact h
      | guard p r => rw [e3] at h; exact h.elim
      | exc x F3 H3 => rw [e3] at h; exact h.elim
      | nx F3 H3 =>
        rw [e3] at h
        exact fun φ3 s3 R3 X3 => goes R3.un ok.kind hnl fun s4 R4 => h φ3 s4 R4 ((X1.trans X2).trans X3)
      | ret v F3 H3 =>
        rw [e3] at h
        exact fun φ3 s3 u R3 X3 hu => goes R3.un ok.kind hnl fun s4 R4 => h φ3 s4 u R4 ((X1.trans X2).trans X3) hu

/-- raise X from None, within a clause -/
noncomputable def hR (cs : List Addr) (sel : Addr → Option Bool) (D : Frm → Hp → Res AV) (D' : Nat → Addr → Frm → Hp → RS) : Nat → Addr → Frm → Hp → RS := fun e C F H => match sel C with
  | some true => (D F H).toS F fun v H1 => match v with
    | .ref i => (match H1.exc i with
      | some (C2, d2, none, _) => (match H1.exc e with
        | some (_, _, _, true) => if C2 ∈ cs ∧ i ≠ e then .exc i F (H1.set i (.exc C2 d2 none false)) else .stuck
        | _ => .stuck)
      | _ => .stuck)
    | _ => .stuck
  | some false => D' e C F H
  | none => .stuck
theorem entry_unchain : entryFor table "proto.unchain" = some Builtin.«proto.unchain» := entryFor_of_fast (by kernel_rfl)
theorem unchain_none {A : Around} {E : Value → Shared → Prop} {s : Shared} {x y : Value} {h : Addr} {o : Obj} {vs : Array Value} {Q : Value → Shared → Prop} (e : s.heap.get? h = some o) (hd : o.data = .fields vs) (h2 : vs[2]? = some .none) (hq : Q .none s) :
    wpAny (model PR w) A (runValue (.builtin "proto.unchain" ⟨[x, .ref h, y, .bool false], []⟩)) Q E s := by
  refine wpAny_runValue (codeAny_builtin entry_unchain ?_)
  unfold Builtin.«proto.unchain»
  refine wpAny_bind (wpAny_field e hd h2 ?_)
  rw [if_pos (by decide)]
  refine wpAny_bind (wpAny_pure (wpAny_pure ?_))
  exact hq
theorem raiseNew_hd {α : Type} {A : Around} {E : Value → Shared → Prop} {s : Shared} {i h : Addr} {o oi : Obj} {us vs : Array Value} {Q : α → Shared → Prop} (hh : A.handled = some (.ref h)) (hne : i ≠ h) (e : s.heap.get? h = some o) (hd : o.data = .fields us) (h2 : us[2]? = some .none)
    (ei : s.heap.get? i = some oi) (hdi : oi.data = .fields vs) (hsz : 2 < vs.size) (hq : E (.ref i) { s with heap := s.heap.update i (Obj.mapFields (·.setIfInBounds 2 (.ref h))) }) : wpAny (model PR w) A (raiseNew (.ref i) : Sem α) Q E s := by
  unfold raiseNew
  refine wpAny_bind (wpAny_handled ?_)
  rw [hh]
  dsimp only
  rw [if_pos (show (Value.ref h != Value.ref i) = true from by simp; exact fun q => hne q.symm)]
  refine wpAny_bind (wpAny_holding (unchain_none e hd h2 ?_))
  refine wpAny_bind ?_
  refine wpAny_setField (i := 2) ei hdi hsz (wpAny_throw hq)
theorem H_raise (GD : Gd w p loose mean mg mb G0) {t x : Expr} {kk : Nat} {cp rp : Pos} {pos : Pos} {rest : List ExceptHandler} {cs : List Addr} {sel : Addr → Option Bool} {D : Frm → Hp → Res AV} {D' : Nat → Addr → Frm → Hp → RS} (hc : ∀ C ∈ cs, XC w C) (hx : SX w G0 lv st.hd t sel) (h1 : SE w G0 lv st.hd x D) (h2 : SH w G0 lv st rest D')
    (hr : ∀ env : Env, exec (.Raise (some x) (some (.Constant .none kk cp)) rp) env = (do standAt rp; raiseStmt env (some (do let v ← eval x env; standAt rp; pure v)) (some (do let v ← eval (.Constant .none kk cp) env; standAt rp; pure v)))) :
    SH w G0 lv st (.ExceptHandler (some t) none [.Raise (some x) (some (.Constant .none kk cp)) rp] pos :: rest) (hR cs sel D D') := fun a φ F H s Q E e C d tb cx ok R hE he ht h => by
  have hlt : e < H.next := by obtain ⟨g, m, news, r⟩ := R; exact r.lr.idLt he
  have hE' := hE (a.hd (φ e)).A a.A (SameStack.mark _ _)
  unfold hR at h
  induction hs : sel C with
  | none => rw [hs] at h; exact h.elim
  | some b =>
    rw [hs] at h
    refine wpAny_handleBy_cons (codeAny_handlers_test (wpAny_mono (E := fun _ _ => False) (hx (a.hd (φ e)) φ F H s _ _ e C d (some tb) cx b (ok.hd _) (R.hd _) he hs fun φ1 s1 R1 X1 => ?_) (fun _ _ z => wpAny_mono z (fun _ _ z => z) (fun _ _ z => z.elim)) (fun _ _ z => z.elim))) (by intro q; contradiction)
    induction b with
    | false =>
      have := h2 a φ1 F H s1 Q E e C d tb cx ok R1.un hE he ht (PS.weak h X1)
      rw [X1.2 e hlt] at this
      exact this
    | true =>
      refine codeAny_handlers_suite ?_
      rw [← X1.2 e hlt]
      refine flight_tb R1 he ht ?_
      rw [X1.2 e hlt]
      refine wpAny_mono (E := E) (Q := fun _ _ => False) ?_ (fun _ _ z => z.elim) (fun x s' z => hE' x s' z)
      refine wpAny_execs_cons ?_
      rw [hr]
      refine wpAny_bind (wpAny_standAt ?_)
      unfold raiseStmt
      refine wpAny_bind (wpAny_bind (h1 (a.hd (φ e)) φ1 F H s1 _ E (ok.hd _) R1 (PS.ofE (Q := Q) (PS.un (PS.weak h X1)) fun v φ2 H2 s2 R2 X2 h' u hu => wpAny_bind (wpAny_standAt (wpAny_pure ?_)))))
      split at h'
      · rename_i i
        obtain ⟨hi, rfl⟩ := hu
        split at h'
        · rename_i C2 d2 cx2 e1
          split at h'
          · rename_i C3 d3 tb3 e2
            split at h'
            · rename_i hC
              refine xa2 (hC) fun hC hne => ?_
              refine xe3 (id R2) fun g m news r => ?_
              obtain ⟨oe, hm, hd', ⟨vs, sl, rfl, h6, hv1, hv2⟩, htb⟩ := r.lr.get (Hp.exc_eq e1)
              obtain ⟨oh, hmh, _, ⟨us, usl, rfl, u6, _, hu2⟩, _⟩ := r.lr.get (Hp.exc_eq e2)
              have hget := (r.nw _ hm).1
              have hgeth := (r.nw _ hmh).1
              have X := kin_of GD (ok.hd _) R2
              have φe : φ2 e = φ e := (X2.2 e hlt).trans (X1.2 e hlt)
              have φne : φ2 i ≠ φ2 e := fun q => hne (r.lr.inj _ (lookup_lt (Hp.exc_eq e1)) _ (lookup_lt (Hp.exc_eq e2)) q)
              refine wpAny_bind (wpAny_holding (wpAny_bind (wpAny_Constant_none (wpAny_bind (wpAny_standAt (wpAny_pure ?_))))))
              refine wpAny_bind (wpAny_pure ?_)
              refine wpAny_bind (wpAny_holding (raise_core (hc C2 hC) X hget ?_))
              dsimp only
              rw [if_pos (by decide)]
              refine wpAny_bind (wpAny_pure ?_)
              refine wpAny_bind (wpAny_setField hget rfl (by rw [h6]; decide) ?_)
              have g1 := Heap.get?_update_self (Obj.mapFields (·.setIfInBounds 3 Value.none)) hget rfl
              refine wpAny_bind (wpAny_setField g1 rfl (by simp only [Array.size_setIfInBounds]; rw [h6]; decide) ?_)
              have g2 := Heap.get?_update_self (Obj.mapFields (·.setIfInBounds 4 (Value.bool true))) g1 rfl
              have k2 : ∀ b o, b ≠ φ2 i → s2.heap.get? b = some o → ((s2.heap.update (φ2 i) (Obj.mapFields (·.setIfInBounds 3 Value.none))).update (φ2 i) (Obj.mapFields (·.setIfInBounds 4 (Value.bool true)))).get? b = some o := fun b o hb z => by
                rw [Heap.get?_update_other _ _ (Ne.symm hb), Heap.get?_update_other _ _ (Ne.symm hb)]; exact z
              have R3 := r.hset (k := s2.toks) (Hp.exc_eq e1) k2 g2 (ao' := .exc C2 d2 none cx2) ⟨hd', ⟨_, sl, rfl, by simp only [Array.size_setIfInBounds]; exact h6, by rw [Array.getElem?_setIfInBounds_ne (by decide), Array.getElem?_setIfInBounds_ne (by decide)]; exact hv1, fun q => by rw [Array.getElem?_setIfInBounds_ne (by decide), Array.getElem?_setIfInBounds_ne (by decide)]; exact hv2 q⟩, htb⟩
              have X3 := kin_of GD (ok.hd _) R3
              refine wpAny_bind ((looks_notType g2).here ?_)
              rw [if_neg (by decide)]
              refine wpAny_bind (raise_inst (hc C2 hC) X3 g2 ?_)
              have hv1' : ((vs.setIfInBounds 3 Value.none).setIfInBounds 4 (Value.bool true))[1]? = some .none := by rw [Array.getElem?_setIfInBounds_ne (by decide), Array.getElem?_setIfInBounds_ne (by decide)]; exact hv1
              refine wpAny_bind (flight_none g2 rfl hv1' ?_)
              have gh : ((s2.heap.update (φ2 i) (Obj.mapFields (·.setIfInBounds 3 Value.none))).update (φ2 i) (Obj.mapFields (·.setIfInBounds 4 (Value.bool true)))).get? (φ2 e) = some _ := k2 _ _ (fun q => φne q.symm) hgeth
              rw [φe] at gh
              refine raiseNew_hd (h := φ e) rfl (by rw [← φe]; exact φne) gh rfl (hu2 rfl) g2 rfl (by simp only [Array.size_setIfInBounds]; rw [h6]; decide) ?_
              have g3 := Heap.get?_update_self (Obj.mapFields (·.setIfInBounds 2 (Value.ref (φ e)))) g2 rfl
              refine h' φ2 _ (r.hset (k := s2.toks) (Hp.exc_eq e1) (ao' := .exc C2 d2 none false) (fun b o hb z => (Heap.get?_update_other _ _ (Ne.symm hb)).trans (k2 b o hb z)) g3 ⟨hd', ⟨_, sl, rfl, by simp only [Array.size_setIfInBounds]; exact h6, by rw [Array.getElem?_setIfInBounds_ne (by decide)]; exact hv1', fun q => by cases q⟩, htb⟩) .refl hi
            · exact h'.elim
          · exact h'.elim
        · exact h'.elim
      · exact h'.elim
/-- try: body except .. -/
noncomputable def tTry (D : Frm → Hp → RS) (DH : Nat → Addr → Frm → Hp → RS) : Frm → Hp → RS := fun F H => RS.rec (motive := fun _ => RS) (fun F1 H1 => .nx F1 H1) (fun v F1 H1 => .ret v F1 H1) (fun e F1 H1 => match H1.exc e with
    | some (C, d, none, cx) => DH e C F1 (noteH e C d cx H1)
    | some (C, d, some t, cx) => if H1.isTb t then DH e C F1 (noteH e C d cx H1) else .stuck
    | none => .stuck) .stuck (fun p _ ih => .guard p ih) (D F H)
theorem note_get {e : Nat} {C : Addr} {d tb : Option Nat} {cx : Bool} {H : Hp} (he : H.get e = some (.exc C d tb cx)) (hl : e < H.next) : (noteH e C d cx H).get e = some (.exc C d (some H.next) cx) ∧ (noteH e C d cx H).get H.next = some .tb := by
  have look : ∀ {l : List (Nat × AO)} {i : Nat} {a b : AO}, getO i l = some a → getO i (setL i b l) = some b := by
    intro l
    induction l with
    | nil => intro i a b h; exact no_some9 h
    | cons p l ih =>
      intro i a b h
      rw [setL_cons]
      by_cases hp : p.1 = i
      · rw [if_pos hp, getO_cons, beq_self_eq_true]
      · rw [if_neg hp]
        rw [getO_cons, show (i == p.1) = false from by simpa using fun q => hp q.symm] at h ⊢
        exact ih h
  have other : ∀ {l : List (Nat × AO)} {i j : Nat} {b : AO}, j ≠ i → getO j (setL i b l) = getO j l := by
    intro l
    induction l with
    | nil => intros; rfl
    | cons p l ih =>
      intro i j b h
      rw [setL_cons]
      by_cases hp : p.1 = i
      · rw [if_pos hp, getO_cons, getO_cons, hp, show (j == i) = false from by simpa using h]
      · rw [if_neg hp, getO_cons, getO_cons]
        cases (j == p.1) with
        | true => rfl
        | false => exact ih h
  refine ⟨look (get_push_ne he hl), ?_⟩
  show getO H.next (setL e _ ((H.next, AO.tb) :: H.cells)) = _
  rw [other (Nat.ne_of_gt hl), getO_cons, beq_self_eq_true]
theorem T_try (GD : Gd w p loose mean mg mb G0) (hcm : st.cm = false) {body : List Stmt} {h0 : ExceptHandler} {hs : List ExceptHandler} {pos : Pos} {D : Frm → Hp → RS} {DH : Nat → Addr → Frm → Hp → RS} (h1 : SSs w G0 lv st body D) (h2 : SH w G0 lv st (h0 :: hs) DH) :
    SS w G0 lv st (.Try body (h0 :: hs) [] [] pos) (tTry D DH) := fun a φ F H s Q E ok R hE h => by
  rw [arm_exec_Try]
  refine wpAny_bind (wpAny_standAt (wpAny_tryStmt_except ?_))
  refine h1 a φ F H s _ _ ok R OwnE.looking ?_
  unfold tTry at h
  generalize D F H = rr at h
  induction rr with
  | guard p r ih => exact ⟨h.1, ih h.2⟩
  | stuck => exact h
  | nx F1 H1 =>
    exact fun φ1 s1 R1 X1 => wpAny_execs_nil (h φ1 s1 R1 X1)
  | ret v F1 H1 => exact h
  | exc e F1 H1 =>
    dsimp only at h
    intro φ1 s1 R1 X1 hlt
    have fin : ∀ {C : Addr} {d tb : Option Nat} {cx : Bool}, H1.get e = some (.exc C d tb cx) → (∀ t, tb = some t → H1.get t = some .tb) → PS w a φ H.next (DH e C F1 (noteH e C d cx H1)) Q E →
        wpAny (model PR w) a.A (noteFrame (.ref (φ1 e)) (a.env st)) (fun _ s₂ => wpAny (model PR w) a.A (setFlight (.ref (φ1 e)) none) (fun _ s₃ => wpAny (model PR w) a.A (handleBy (.ref (φ1 e)) (a.env st) (h0 :: hs)) Q E s₃) E s₂) E s1 := fun {C d tb cx} he ht hq =>
      X_note GD ok hcm R1 he ht fun φ2 s2 R2 X2 => by
        have := h2 a φ2 F1 (noteH e C d cx H1) s2 Q E e C d H1.next cx ok R2 hE (note_get he hlt).1 (note_get he hlt).2 (PS.weak hq (X1.trans X2))
        rw [X2.2 e hlt] at this
        exact this
    split at h
    · rename_i e2; exact fin (Hp.exc_eq e2) (fun t ht => by exact no_some9 ht) h
    · rename_i e2
      split at h
      · rename_i e3; exact fin (Hp.exc_eq e2) (fun t' ht => by obtain rfl := Option.some.inj ht; exact Hp.isTb_eq e3) h
      · exact h.elim
    · exact h.elim
end
end Mine
end
-- M22
section
open PySem PySem.W PySem.Spec
open Sem (wp)
set_option Elab.async false
set_option linter.all false
namespace Mine
set_option maxRecDepth 100000
section
variable {prog : Program} {w : World} {A : Around} {R : Result → Shared → Prop} {h : Heap} {g : Array GenState} {d : Drawn} {t : Nat} {os : OsState}
variable {nm q : Str} {C N : Addr} {bs bm : List Value} {hdct : Bool} {sn : List Str} {sub : List Value} {ab : Bool} {col : Option Bool} {dd : Option Addr} {k0 k1 k2 k3 k5 : Option Value}

/-- what the line above an own class of exceptions must bear -/
noncomputable def lineOk (bm : List Value) : Bool := bm.contains (.type "ValueError") && !bm.contains (.type "AttributeError") && !bm.contains (.type "NameError") && bm.contains (.type "BaseException") && bm.contains (.type "object")
theorem cons_has {C : Addr} {x : String} {b : Bool} (e : bm.contains (.type x) = b) : (Value.ref C :: bm).contains (.type x) = b := by rw [List.contains_cons, e]; rfl
theorem xc_check {M : Model} {E : Value → Shared → Prop} (hb : lineOk bm = true) {rest : List Value} {Q : Unit → Shared → Prop} (hC : h.get? C = some (excClassObj nm q C N bs bm hdct sn sub ab col dd k0 k1 k2 k3 k5 "ValueError.__new__"))
    (hq : Q () ⟨h, g, d, t, os⟩) : wpAny M A (checkBuiltinCall "ValueError.__new__" ⟨.ref C :: rest, []⟩) Q E ⟨h, g, d, t, os⟩ := by
  simp only [lineOk, Bool.and_eq_true, Bool.not_eq_true'] at hb
  have hcont := cons_has (C := C) hb.1.1.1.1
  have Fn := PySem.F.excBase_ValueError
  have hstar := Fn.noStar
  unfold checkBuiltinCall
  rw [Fn.newKind, Fn.newSplit]
  dsimp only
  repeat (first | refine wpAny_loadPart_at hC ?_ | (refine wpAny_isSubtype_exc hC ?_; rw [hcont]) | refine wpAny_staticBase_exc hC ?_ | refine wpAny_madeBy_exc hC ?_ | simp only [bne_self_eq_false, Bool.false_eq_true, if_false] | wp_step)
  exact hq
theorem xc_new (hb : lineOk bm = true) {rest : List Value} (hC : h.get? C = some (excClassObj nm q C N bs bm hdct sn sub ab col dd k0 k1 k2 k3 k5 "ValueError.__new__"))
    (hq : R (.ok (.ret (.ref (h.objs.size + 1)))) ⟨(h.push { cls := .type "tuple", data := .seq rest.toArray }).push
      { cls := .ref C, data := .fields #[.ref h.objs.size, .none, .none, .none, .bool false, .none] }, g, d, t, os⟩) (hrest : rest.length ≤ sizeLine) :
    codeAny (model prog w) A (.builtin "ValueError.__new__" ⟨.ref C :: rest, []⟩) R ⟨h, g, d, t, os⟩ := by
  simp only [lineOk, Bool.and_eq_true, Bool.not_eq_true'] at hb
  have Fn := PySem.F.excBase_ValueError
  have hends := Fn.ends
  have hcB := cons_has (C := C) hb.1.1.1.1
  have hcA := cons_has (C := C) hb.1.1.1.2
  have hcN := cons_has (C := C) hb.1.1.2
  refine codeAny_builtinAt Fn.entry ?_
  unfold Builtin.«BaseException.__new__»
  refine wpAt_bind ?_
  show wpAt _ _ _ (stack >>= _) _ _ _
  refine wpAt_bind (wpAt_stack fun p below => wpAt_of_wpAny ?_)
  wp_walk
  refine wpAt_of_wpAny ?_
  rw [Fn.owner]
  repeat (first | with_reducible refine wpAny_madeHere_exc Fn.canon hC ?_ | with_reducible refine wpAny_loadPart_at hC ?_ | (with_reducible refine wpAny_isSubtype_exc hC ?_; first | rw [hcB] | rw [hcA] | rw [hcN]) | wp_step)
  show R _ _
  rw [Heap.size_push]
  exact hq
theorem xc_call {E : Value → Shared → Prop} (hb : lineOk bm = true) {rest : List Value} {fI : Addr} {Q : Value → Shared → Prop} (hC : h.get? C = some (excClassObj nm q C N bs bm hdct sn sub ab col dd k0 k1 k2 k3 k5 "ValueError.__new__"))
    (hi : Looks (model prog w) h (typeLookup (.ref C) "__init__") (some (.ref fI))) (hbd : ∀ self, Looks (model prog w) h (bindSpecial (.ref fI) self) (.ref fI, [self]))
    (hq : ∀ h' e, Heap.MadeExcOf h h' e (.ref C) rest →
      wpAny (model prog w) (A.under (.builtin "type.__call__" ⟨.ref C :: rest, []⟩)) (call (.ref fI) (.ref e :: rest)) (fun r s' => r = .none ∧ Q (.ref e) s') E ⟨h', g, d, t, os⟩) (hrest : rest.length ≤ sizeLine) :
    wpAny (model prog w) A (call (.ref C) rest) Q E ⟨h, g, d, t, os⟩ := by
  have f1 := tc_lookup
  have f2 := tc_bind (.ref C)
  have Fn := PySem.F.excBase_ValueError
  have hT : (⟨h, g, d, t, os⟩ : Shared).TypeIs (.ref C) "type" := ⟨_, hC, rfl⟩
  refine wpAny_call (codeAny_of_tree ?_)
  show wpAny _ _ (callAny (.ref C) _) _ _ _
  repeat (any_goals (first | assumption | with_reducible refine wpAny_loadPart_at hC ?_ | wp_step))
  refine ⟨rfl, ?_⟩
  refine codeAny_call_builtin_at (Code.quiet_builtin _ (by decide +kernel)) entry_typeCall (wpAny_check_type_call_sub hC ?_)
  repeat (first | with_reducible refine wpAny_loadPart_at hC ?_ | with_reducible refine wpAny_madeBy_exc hC ?_ | wp_step)
  refine codeAny_call_builtin_code (Code.quiet_builtin _ Fn.quiet) (xc_check (rest := rest) hb hC ?_)
  refine xc_new (rest := rest) hb hC ?_ hrest
  show wpAny _ _ _ _ _ _
  have kp : ∀ b o, h.get? b = some o → ((h.push { cls := .type "tuple", data := .seq rest.toArray }).push { cls := .ref C, data := .fields #[.ref h.objs.size, .none, .none, .none, .bool false, .none] }).get? b = some o := fun b o e => Heap.get?_push_of_some _ (Heap.get?_push_of_some _ e)
  have hC₁ := kp _ _ hC
  have hget : ((h.push { cls := .type "tuple", data := .seq rest.toArray }).push
      { cls := .ref C, data := .fields #[.ref h.objs.size, .none, .none, .none, .bool false, .none] }).get? (h.objs.size + 1) = some
      { cls := .ref C, data := .fields #[.ref h.objs.size, .none, .none, .none, .bool false, .none] } := by heap_get
  have hcC : (Value.ref C :: bm).contains (.ref C) = true := by simp
  have L1 := hi.keeps kp
  have L2 := (hbd (.ref (h.objs.size + 1))).keeps kp
  unfold isInstance
  repeat (first | with_reducible refine wpAny_loadPart_at hget ?_ | (with_reducible refine wpAny_isSubtype_exc hC₁ ?_; rw [hcC]) | wp_step)
  show wpAny _ _ (typeLookup (.ref C) _) _ _ _
  refine L1.at ?_
  refine wpAny_holding (wpAny_bind (L2.at ?_))
  refine wpAny_bind (wpAny_mono (hq _ (h.objs.size + 1) ⟨kp, Heap.get?_none_of_le (Nat.le_succ _), h.objs.size, hget, Heap.get?_none_of_le (Nat.le_refl _), ?_⟩) (fun r s' hr => ?_) fun _ _ x => x)
  · exact Heap.get?_push_of_some _ (Heap.get?_push_at rfl rfl)
  · obtain ⟨rfl, hQ⟩ := hr
    wp_walk
    exact hQ
end
end Mine
end
-- M23
section
open PySem PySem.W PyProof.Rows PySem.Calls PySem.Spec Builtin Builtin.ObjectAttr
set_option Elab.async false
set_option linter.all false
namespace Mine
set_option maxRecDepth 100000
section
variable {w : World} {p : Program} {loose : List Str} {mean : ExcName → Option Value} {mg mb : Str → Option Value} {G0 : Heap} {lv : Nat} {st : Sta}

/-- an exception is made -/
noncomputable def fNewX (C : Addr) (D : List AV → Hp → Res AV) (xs : List AV) (H : Hp) : Res AV :=
  if xs.length ≤ 1000 then (match D (.ref H.next :: xs) (H.push (.exc C none none true)) with
  | .ok .none H' => .ok (.ref H.next) H'
  | _ => .stuck) else .stuck
theorem O_newX (GD : Gd w p loose mean mg mb G0) {nm q : Str} {C N fI : Addr} {bs bm : List Value} {hdct : Bool} {sn : List Str} {sub : List Value} {ab : Bool} {col : Option Bool} {dd : Option Addr} {k0 k1 k2 k3 k5 : Option Value} {D : List AV → Hp → Res AV}
    (hC : (hd.heap_39 w.params).lookup C = some (excClassObj nm q C N bs bm hdct sn sub ab col dd k0 k1 k2 k3 k5 "ValueError.__new__")) (hb : lineOk bm = true)
    (hi : findIn (hd.heap_39 w.params) (.ref C) "__init__" = some (some (.ref fI))) (hf : typeIn (hd.heap_39 w.params) (.ref fI) = some (.type "function")) {nh : Bool} (hS : SF w G0 lv nh (.ref fI) D) (hn : nh = true → st.nh = true) (hcm : st.cm = false) :
    SOn w G0 (lv + 1) st (fun vs => call (.ref C) vs) (fNewX C D) := fun a φ F H s Qc Ec xs vs ok R hx h => by
  unfold fNewX at h
  split at h
  · rename_i hlen
    have X := kin_of GD ok R
    refine xe3 (id R) fun g m news r => ?_
    obtain ⟨hp, gg, dd', tk, os⟩ := s
    refine xc_call hb (X _ _ hC) (looks_findIn X hi) (fun self => bind_fn X self hf) (fun h' e hm => ?_) (size_ok (by rw [← hx.length]; exact hlen))
    refine xe13 (hm.there) fun t he _ _ => ?_
    have hkeep := hm.keeps
    have F' : Fr g a.L h' m := r.fr.keeps hkeep
    have eL : e ≠ a.L := fun q => by
      refine xe12 (F_ns r.fr) fun oL hL _ => ?_
      rw [← q] at hL
      rw [show hp.get? e = none from hm.new] at hL; exact no_some9 hL
    have N' : News g a.L h' ((e, { cls := .ref C, data := .fields #[.ref t, .none, .none, .none, .bool false, .none] }) :: news) := fun y hy => by
      rcases List.mem_cons.mp hy with rfl | hy
      · refine ⟨he, eL, ?_⟩
        induction q : g.get? e with
        | none => rfl
        | some o => have := r.fr.keep _ _ q; rw [show hp.get? e = none from hm.new] at this; exact no_some9 this
      · exact ⟨hkeep _ _ (r.nw y hy).1, (r.nw y hy).2⟩
    have R2 : RelX w a (upφ φ H.next e) F (H.push (.exc C none none true)) ⟨h', gg, dd', tk, os⟩ := r.push (k := tk) F' N' (fun y hy q => by
      have := (r.nw y hy).1
      rw [q, show hp.get? e = none from hm.new] at this; exact no_some9 this) ⟨(fun i hi => by exact no_some9 hi), ⟨_, #[], rfl, rfl, rfl, fun _ => rfl⟩, (fun t ht => by exact no_some9 ht)⟩
    refine xe22 (call_out GD (lv := lv + 1) ok R2 hcm) fun fs news2 B back => ?_
    refine wpAny_call (hS a.ks _ _ fs _ _ _ news2 _ (.ref H.next :: xs) (.ref e :: vs) (Begins.weak hn (B.under _ _ _)) (.cons vr_new (hx.mono fun _ _ z => vr_up z)) ?_)
    induction e1 : D (.ref H.next :: xs) (H.push (.exc C none none true)) with
    | stuck => rw [e1] at h; exact h
    | guard p r => rw [e1] at h; exact h.elim
    | exc e0 H' => rw [e1] at h; exact h.elim
    | ok v H' =>
      rw [e1] at h
      induction v <;> try exact h.elim
      intro φ' s' news' u l hu
      subst hu
      refine ⟨rfl, h φ' s' (back _ _ _ _ l) (Ext.trans .up l.ext) _ ⟨Nat.lt_of_lt_of_le (Nat.lt_succ_self _) l.ext.1, ?_⟩⟩
      rw [l.ext.2 H.next (Nat.lt_succ_self _)]
      exact congrArg Value.ref (show e = upφ φ H.next e H.next from (if_pos rfl).symm)
  · exact h.elim

/-- the line above passes stores -/
noncomputable def lineRef : List Value → Bool
  | .ref _ :: r => lineRef r
  | r => r == [.type "ValueError", .type "Exception", .type "BaseException", .type "object"]
theorem lineRef_pass (self : Value) : ∀ {l : List Value}, lineRef l = true → refuseLoop self "__setattr__" l = pure ()
  | [], e => by exact no_true9 e
  | v :: r, e => by
    by_cases hv : ∃ c, v = .ref c
    · obtain ⟨c, rfl⟩ := hv
      rw [refuseLoop_ref]; exact lineRef_pass self (l := r) e
    · have h1 : lineRef (v :: r) = ((v :: r) == [.type "ValueError", .type "Exception", .type "BaseException", .type "object"]) := by induction v <;> first | rfl | exact absurd ⟨_, rfl⟩ hv
      rw [h1] at e
      rw [beq_iff_eq.mp e]; exact PySem.F.store_ValueError.passes self
end
end Mine
end
-- M24
section
open PySem PySem.W PyProof.Rows PySem.Calls PySem.Spec Builtin Builtin.ObjectAttr
set_option Elab.async false
set_option linter.all false
namespace Mine
set_option maxRecDepth 100000
section
variable {w : World} {p : Program} {loose : List Str} {mean : ExcName → Option Value} {mg mb : Str → Option Value} {G0 : Heap} {lv : Nat} {st : Sta}

/-- an own class of exceptions -/
structure XD (w : World) (C : Addr) : Prop where
  ex : ∃ nm q N bs bm sn sub ab col dd k0 k1 k2 k3 k5, (hd.heap_39 w.params).lookup C = some (excClassObj nm q C N bs bm true sn sub ab col dd k0 k1 k2 k3 k5 "ValueError.__new__") ∧ lineOk bm = true ∧ lineRef bm = true
  set : findIn (hd.heap_39 w.params) (.ref C) "__setattr__" = some (some (.builtin "object.__setattr__"))
  get : findIn (hd.heap_39 w.params) (.ref C) "__getattribute__" = some (some (.builtin "BaseException.__getattribute__"))
theorem XD.cd {C : Addr} (x : XD w C) : ∃ cd, clsIn (hd.heap_39 w.params) C = some cd ∧ lineRef cd.mro = true ∧ cd.hasDict = true ∧ cd.mro.isEmpty = false ∧ cd.mro.contains (.type "object") = true ∧ cd.mro.contains (.type "BaseException") = true ∧ typeIn (hd.heap_39 w.params) (.ref C) = some (.type "type") := by
  obtain ⟨nm, q, N, bs, bm, sn, sub, ab, col, dd, k0, k1, k2, k3, k5, hC, hb, hr⟩ := x.ex
  simp only [lineOk, Bool.and_eq_true, Bool.not_eq_true'] at hb
  refine ⟨{ name := nm, bases := bs, mro := .ref C :: bm, ns := N, qualname := q, hasDict := true, slotNames := sn, subclasses := sub, abstract := ab, collection := col, hasDel := false }, by unfold clsIn; rw [hC], hr, rfl, rfl, cons_has hb.2, cons_has hb.1.2, by show Option.map _ _ = _; rw [hC]; rfl⟩
theorem XD.xc {C : Addr} (x : XD w C) : XC w C := by
  obtain ⟨cd, h1, h2, h3, h4, h5, h6, h7⟩ := x.cd
  exact ⟨by show mroIn _ _ _ = _; unfold mroIn; rw [h1, Option.bind_some, if_neg (by rw [h4]; decide), h6], h7⟩
theorem xset {A : Around} {E : Value → Shared → Prop} {s : Shared} {x C : Addr} {ox : Obj} {od : Option Obj} {name : Str} {v : Value} {Q : Unit → Shared → Prop} (xd : XD w C) (ht : takerIn (hd.heap_39 w.params) C name = some none) (X : (hd.heap_39 w.params).In s.heap) (I : InstAt s.heap x ox C od)
    (h : ∀ b A' (tk : Tok), wpAny (model PR w) A' (storeInOwnDict (.ref x) (.ref C) (.str name tk) name v b) (fun fin s' => fin = .done (.ret .none) ∧ Q () s') (fun _ _ => False) { s with toks := s.toks + 1 }) :
    wpAny (model PR w) A (setAttr (.ref x) name v) Q E s := by
  obtain ⟨cd, hc, hr, hdd, hne, hob, _, _⟩ := xd.cd
  refine set_plain X I xd.set ?_
  obtain ⟨hp, g, d, tk, os⟩ := s
  dsimp only at X I h ⊢
  have SF := PySem.F.store_object
  have sub : Looks (model PR w) hp (isInstance (.ref x) (.type "object")) true := I.type.andThen (looks_mroIn X (by unfold mroIn; rw [hc, Option.bind_some, if_neg (by rw [hne]; decide), hob]))
  refine codeAny_call_builtin SF.slot.plain SF.entry (@check_slot (model PR w) _ _ ⟨hp, g, d, tk + 1, os⟩ "object.__setattr__" "object" "__setattr__" (.ref x) [.str name tk, v] [] _ SF.kind SF.split sub (SF.args (.ref x) (.str name tk) v) ?_)
  refine xe12 (Option.bind_eq_some_iff.mp ht) fun attr ha hr' => ?_
  have hm : Looks (model PR w) hp (mroOf (.ref C)) cd.mro := (looks_clsIn X hc).andThen .now
  have L3 : Looks (model PR w) hp (storeTaker? attr) none := by
    induction attr with
    | none => exact .now
    | some a =>
      refine xe12 (Option.map_eq_some_iff.mp hr') fun b hb hz => ?_
      refine (looks_takesIn X hb).andThen ?_
      induction b with
      | true => exact no_some8 hz
      | false => exact .now
  rw [osa_eq, refuse_eq]
  refine wpAny_bind (wpAny_bind (I.type.at (wpAny_bind (hm.at ?_))))
  rw [lineRef_pass _ hr]
  refine wpAny_pure (wpAny_bind (I.type.at (wpAny_bind ((looks_findIn X ha).at (wpAny_bind (L3.at ?_))))))
  exact wpAny_mono (h _ _ tk) (fun fin s' z => by obtain ⟨rfl, z⟩ := z; exact z) fun _ _ z => z.elim
theorem st_in {A : Around} {E : Value → Shared → Prop} {s : Shared} {dx : Addr} {es : List DictEntry} {n : Nat} {name : Str} {tk : Tok} {v : Value} {Q : PySem.Fin → Shared → Prop} (D : s.heap.get? dx = some (dictOf es n)) (hl : (getL name es).isSome = true)
    (hz : (putL name (PyData.keyHash w.params name) (.str name s.toks) v es).length ≤ 1000) (h : ∀ h', (∀ b o, b ≠ dx → s.heap.get? b = some o → h'.get? b = some o) → h'.get? dx = some (dictOf (putL name (PyData.keyHash w.params name) (.str name s.toks) v es) (putN name es n)) → Q (.done (.ret .none)) { s with heap := h', toks := s.toks + 1 }) :
    wpAny (model PR w) A (storeInDict dx (.str name tk) name v) Q E s := by
  unfold storeInDict newKeyGuard
  refine wpAny_bind (wpAny_pure (wpAny_bind ?_))
  unfold nsSet
  have c : (!es.toArray.any (·.key.isStr name) && es.toArray.any (·.refKey)) = false := by
    rw [← Array.any_toList, ← Array.any_toList, List.toList_toArray]
    unfold getL at hl
    split at hl
    · rename_i en he
      rw [List.any_eq_true.mpr ⟨en, List.mem_of_find?_eq_some he, List.find?_some he⟩]; rfl
    · split at hl
      · exact no_true9 hl
      · rename_i z; rw [Bool.not_eq_true] at z; rw [z, Bool.and_false]
  refine wpAny_bind (wpAny_bind (wpAny_askSetting (wpAny_pure (wpAny_bind (wpAny_mkText (wpAny_bind (wpAny_loadPart D ?_)))))))
  show wpAny _ _ _ _ _ _
  dsimp only [dictOf]
  rw [aRefKeyMayBeTheName_at, c]
  refine wpAny_updatePart D ?_
  have D' : (s.heap.update dx (Obj.putName name (PyData.keyHash w.params name) (.str name s.toks) v)).get? dx = some (dictOf (putL name (PyData.keyHash w.params name) (.str name s.toks) v es) (putN name es n)) := by
    rw [← putName_dict]; exact Heap.get?_update_self _ D (by rw [putName_dict]; rfl)
  refine wpAny_bind (wpAny_lookBehind D' (pastItsLine_dict (by rw [List.size_toArray, sizeLine_eq]; lia)) ?_)
  exact wpAny_pure (h _ (fun b o hb e => (Heap.get?_update_other _ _ (Ne.symm hb)).trans e) D')
end
end Mine
end
-- M25
section
open PySem PySem.W PyProof.Rows PySem.Calls PySem.Spec Builtin Builtin.ObjectAttr
set_option Elab.async false
set_option linter.all false
namespace Mine
set_option maxRecDepth 100000
section
variable {w : World} {p : Program} {loose : List Str} {mean : ExcName → Option Value} {mg mb : Str → Option Value} {G0 : Heap} {lv : Nat} {st : Sta}

noncomputable def setX (cs : List Addr) (x : Nat) (y v : AV) (H : Hp) : Res Unit := match y with
  | .ref i => (match H.exc i with
    | some (C, none, tb, cx) => if C ∈ cs then .ok () ((H.push (.dict [(x, v)])).set i (.exc C (some H.next) tb cx)) else .stuck
    | some (C, some d, _, _) => if C ∈ cs then (match H.dict d with
      | some es => if es.length < 900 then .ok () (H.set d (.dict (putS x v es))) else .stuck
      | none => .stuck) else .stuck
    | none => .stuck)
  | _ => .stuck
theorem own_some {A : Around} {E : Value → Shared → Prop} {s : Shared} {x C dx : Addr} {vs : Array Value} {sl : Array (Option Value)} {name : Str} {tk : Tok} {v : Value} {b : Bool} {Q : PySem.Fin → Shared → Prop} (xd : XD w C) (X : (hd.heap_39 w.params).In s.heap) (hx : s.heap.get? x = some ⟨.ref C, some dx, .fields vs, sl⟩)
    (h : wpAny (model PR w) A (storeInDict dx (.str name tk) name v) Q E s) : wpAny (model PR w) A (storeInOwnDict (.ref x) (.ref C) (.str name tk) name v b) Q E s := by
  refine xe14 (xd.cd) fun cd hc hr hdd _ => ?_
  refine wpAny_bind (wpAny_pure (wpAny_bind (wpAny_bind (wpAny_loadPart hx (wpAny_bind ((looks_clsIn X hc).here ?_))))))
  rw [hdd]
  refine wpAny_pure (a := some dx) ?_
  exact h
theorem own_none {A : Around} {E : Value → Shared → Prop} {s : Shared} {x C : Addr} {vs : Array Value} {sl : Array (Option Value)} {name : Str} {tk : Tok} {v : Value} {b : Bool} {Q : PySem.Fin → Shared → Prop} (xd : XD w C) (X : (hd.heap_39 w.params).In s.heap) (hx : s.heap.get? x = some ⟨.ref C, none, .fields vs, sl⟩)
    (h : wpAny (model PR w) A (storeInDict s.heap.objs.size (.str name tk) name v) Q E { s with heap := (s.heap.push { cls := .type "dict", data := .dict #[] }).update x fun o => { o with dict := some s.heap.objs.size } }) : wpAny (model PR w) A (storeInOwnDict (.ref x) (.ref C) (.str name tk) name v b) Q E s := by
  refine xe14 (xd.cd) fun cd hc hr hdd _ => ?_
  refine wpAny_bind (wpAny_pure (wpAny_bind (wpAny_bind (wpAny_loadPart hx (wpAny_bind ((looks_clsIn X hc).here ?_))))))
  rw [hdd]
  dsimp only
  rw [if_neg (by simp [typeHasDict])]
  refine wpAny_bind (wpAny_alloc' ?_)
  refine wpAny_bind (wpAny_update' (Heap.get?_push_of_some _ hx) ?_)
  refine wpAny_pure ?_
  exact h
theorem O_setX (GD : Gd w p loose mean mg mb G0) {cs : List Addr} {k : Nat} {x : Str} (hk : KN k x) (hc : ∀ C ∈ cs, XD w C ∧ takerIn (hd.heap_39 w.params) C x = some none) : SU2 w G0 lv st (fun v u => setAttr v x u) (setX cs k) := fun a φ F H s Qc Ec y b v u ok R hy hb h => by
  unfold setX at h
  split at h
  · rename_i i
    obtain ⟨hi, rfl⟩ := hy
    have X := kin_of GD ok R
    split at h
    · rename_i C tb cx e1
      split at h
      · rename_i hC
        refine xa2 (hc C hC) fun xd ht => ?_
        refine xe3 (id R) fun g m news r => ?_
        obtain ⟨ob, hm, hd', ⟨vs, sl, rfl, h6, h1, h2⟩, htb⟩ := r.lr.get (Hp.exc_eq e1)
        have hget := (r.nw _ hm).1
        refine xset xd ht X (od := none) ⟨hget, rfl, rfl, trivial⟩ fun bb A' tk => ?_
        refine own_none (s := { s with toks := s.toks + 1 }) xd X hget ?_
        dsimp only
        have hpush : (s.heap.push { cls := .type "dict", data := .dict #[] }).get? (φ i) = some _ := Heap.get?_push_of_some _ hget
        have hne : φ i ≠ s.heap.objs.size := Nat.ne_of_lt (Heap.lt_size hget)
        have hup := Heap.get?_update_self (fun o => ({ o with dict := some s.heap.objs.size } : Obj)) hpush rfl
        have hdn : ((s.heap.push { cls := .type "dict", data := .dict #[] }).update (φ i) fun o => { o with dict := some s.heap.objs.size }).get? s.heap.objs.size = some (dictOf [] 0) :=
          (Heap.get?_update_other _ _ hne).trans (Heap.get?_push_size _ rfl)
        refine st_in (es := []) (n := 0) (s := { s with heap := (s.heap.push { cls := .type "dict", data := .dict #[] }).update (φ i) fun o => { o with dict := some s.heap.objs.size }, toks := s.toks + 1 }) hdn rfl (by show 1 ≤ 1000; lia) fun h' hkp hg => ⟨rfl, ?_⟩
        have keep : ∀ b o, b ≠ φ i → s.heap.get? b = some o → h'.get? b = some o := fun b o hb' e => hkp b o (Nat.ne_of_lt (Heap.lt_size e)) ((Heap.get?_update_other _ _ (Ne.symm hb')).trans (Heap.get?_push_of_some _ e))
        have hi' : h'.get? (φ i) = some _ := hkp _ _ hne hup
        have hput := putL_is hk (P := w) (t := s.toks + 1) hb (All2.nil (R := ER φ H.next w))
        refine xe3 (r.hpush (k := s.toks) (ob := dictOf (putL x (PyData.keyHash w.params x) (.str x (s.toks + 1)) u []) (putN x [] 0)) (ao := .dict [(k, b)]) rfl ⟨_, _, rfl, hput⟩) fun g2 m2 n2 r2 => ?_
        have φi : upφ φ H.next s.heap.objs.size i = φ i := if_neg (Nat.ne_of_lt hi)
        have hlt : i < H.next := hi
        refine h _ _ (r2.hset (k := s.toks + 2) (get_push_ne (Hp.exc_eq e1) hlt) (ao' := .exc C (some H.next) tb cx) (h' := h') (fun b' o hb' e => ?_) (by rw [φi]; exact hi') ⟨(fun i hi => by obtain rfl := Option.some.inj hi; exact Nat.lt_succ_self _), ⟨vs, sl, ?_, h6, ?_, h2⟩, fun t ht => Nat.lt_succ_of_lt (htb t ht)⟩) .up
        · rw [φi] at hb'
          by_cases q : b' = s.heap.objs.size
          · subst q
            rw [Heap.get?_push_size _ rfl] at e
            obtain rfl := Option.some.inj e; exact hg
          · refine keep b' o hb' ?_
            rw [Heap.get?_push_ne _ _ _ q] at e; exact e
        · show _ = Obj.mk _ (some (upφ φ H.next _ H.next)) _ _
          rw [show upφ φ H.next s.heap.objs.size H.next = s.heap.objs.size from if_pos rfl]
        · induction tb with
          | none => exact h1
          | some t => rw [h1]; show some (Value.ref (φ t)) = some (Value.ref (upφ φ H.next _ t)); rw [show upφ φ H.next s.heap.objs.size t = φ t from if_neg (Nat.ne_of_lt (htb t rfl))]
      · exact h.elim
    · rename_i C d tb cx e1
      split at h
      · rename_i hC
        refine xa2 (hc C hC) fun xd ht => ?_
        split at h
        · rename_i es e2
          split at h
          · rename_i hl
            refine xe3 (id R) fun g m news r => ?_
            obtain ⟨ob, hm, hd', ⟨vs, sl, rfl, _⟩, _⟩ := r.lr.get (Hp.exc_eq e1)
            obtain ⟨od, hm2, es', c, rfl, hes⟩ := r.lr.get (Hp.dict_eq e2)
            have hget := (r.nw _ hm).1
            have hgetd := (r.nw _ hm2).1
            refine xset (od := some (dictOf es' c)) xd ht X ⟨hget, rfl, rfl, hgetd⟩ fun bb A' tk => ?_
            refine own_some (s := { s with toks := s.toks + 1 }) (dx := φ d) xd X hget ?_
            have hput := putL_is hk (t := s.toks + 1) hb hes
            refine st_in (s := { s with toks := s.toks + 1 }) hgetd (getL_is hk hes) (by have z1 := hput.len2; have z2 := @putS_len k b es; show (putL x _ (.str x (s.toks + 1)) u es').length ≤ 1000; lia) fun h' hkp hg => ⟨rfl, ?_⟩
            exact h φ _ (r.hset (k := s.toks + 2) (Hp.dict_eq e2) (ao' := .dict (putS k b es)) hkp hg ⟨_, _, rfl, hput⟩) .refl
          · exact h.elim
        · exact h.elim
      · exact h.elim
    · exact h.elim
  · exact h.elim
end
end Mine
end
-- M26
section
open PySem PySem.W PyProof.Rows PySem.Calls PySem.Spec Builtin Builtin.ObjectAttr
set_option Elab.async false
set_option linter.all false
namespace Mine
set_option maxRecDepth 100000
section
variable {w : World} {p : Program} {loose : List Str} {mean : ExcName → Option Value} {mg mb : Str → Option Value} {G0 : Heap} {lv : Nat} {st : Sta}

theorem xget {A : Around} {E : Value → Shared → Prop} {s : Shared} {x C : Addr} {ox : Obj} {es : List DictEntry} {n : Nat} {name : Str} {v : Value} {expr : Bool} {Q : Value → Shared → Prop} (xd : XD w C) (hgt : findIn (hd.heap_39 w.params) (.ref C) "__getattr__" = some none) (hat : findIn (hd.heap_39 w.params) (.ref C) name = some none)
    (X : (hd.heap_39 w.params).In s.heap) (I : InstAt s.heap x ox C (some (dictOf es n))) (hl : getL name es = some (some v)) (hv : handedIn v = true) (h : Q v { s with toks := s.toks + 1 }) : wpAny (model PR w) A (getAttr (.ref x) name expr) Q E s := by
  obtain ⟨hp, g, d, tk, os⟩ := s
  dsimp only at X I h
  obtain ⟨cd, hc, hr, hdd, hne, hob, hbe, hmt⟩ := xd.cd
  have hdi : hasDictIn (hd.heap_39 w.params) C = true := by unfold hasDictIn; rw [hc]; exact hdd
  have L0 := I.type (M := model PR w)
  have L1 := looks_findIn (M := model PR w) X xd.get
  have L2 : Looks (model PR w) hp (hookBefore (.ref C)) none := looks_hook X (by rw [if_pos (show onTheHeap (Value.ref C) = true from rfl)]; exact hgt)
  have L3 := looks_find (M := model PR w) X I (findObj_own hdi hat rfl hl)
  have ga := PySem.F.attr_ValueError.ga
  unfold getAttr getAttrBy
  refine wpAny_bind (wpAny_mkText (wpAny_holding (wpAny_bind (L0.at (wpAny_bind (L1.at ?_))))))
  dsimp only
  rw [show (onTheHeap (Value.ref C) && Value.builtin "BaseException.__getattribute__" == Value.builtin "object.__getattribute__") = false from by rw [show (Value.builtin "BaseException.__getattribute__" == Value.builtin "object.__getattribute__") = false from by decide +kernel, Bool.and_false], if_neg (by decide)]
  unfold getAttrByItsOwn
  refine wpAny_bind (L2.at (wpAny_bind (wpAny_attempt (wpAny_holding ?_))))
  unfold callGetattribute
  rw [show (expr && onTheHeap (Value.builtin "BaseException.__getattribute__")) = false from Bool.and_false _, if_neg (by decide)]
  unfold boundAndCalled
  rw [ga.bind]
  refine wpAny_bind (wpAny_pure ?_)
  show wpAny _ _ (call (.builtin "BaseException.__getattribute__") [.ref x, .str name tk]) _ _ _
  refine wpAny_call ?_
  refine codeAny_call_builtin ga.plain PySem.F.entry_bexc_ga ?_
  have sub : Looks (model PR w) hp (isInstance (.ref x) (.type "BaseException")) true := L0.andThen (looks_mroIn X (by unfold mroIn; rw [hc, Option.bind_some, if_neg (by rw [hne]; decide), hbe]))
  refine @check_slot (model PR w) _ _ ⟨hp, g, d, tk + 1, os⟩ "BaseException.__getattribute__" "BaseException" "__getattribute__" (.ref x) [.str name tk] [] _ (by decide +kernel) (by decide +kernel) sub (PySem.F.args_bexc_ga (.ref x) (.str name tk)) ?_
  unfold Builtin.«object.__getattribute__»
  refine wpAny_bind (wpAny_pure (wpAny_bind (wpAny_pure (wpAny_bind (L0.at (wpAny_bind (L3.at ?_)))))))
  refine wpAny_pure ?_
  show wpAny _ _ (handedOut v) _ _ _
  rw [handedOut_of hv]; exact wpAny_pure h
noncomputable def getX (cs : List Addr) (x : Nat) (y : AV) (H : Hp) : Res AV := match y with
  | .ref i => (match H.exc i with
    | some (C, some d, _, _) => if C ∈ cs then (match H.dict d with
      | some es => (match es.lookup x with | some v => if noB v then .ok v H else .stuck | none => .stuck)
      | none => .stuck) else .stuck
    | _ => .stuck)
  | _ => .stuck
theorem O_getX (GD : Gd w p loose mean mg mb G0) {cs : List Addr} {k : Nat} {x : Str} (hk : KN k x) {expr : Bool} (hc : ∀ C ∈ cs, XD w C ∧ findIn (hd.heap_39 w.params) (.ref C) "__getattr__" = some none ∧ findIn (hd.heap_39 w.params) (.ref C) x = some none) : SO1 w G0 lv st (fun v => getAttr v x expr) (getX cs k) := fun a φ F H s Qc Ec y u ok R hy h => by
  unfold getX at h
  split at h
  · rename_i i
    obtain ⟨hi, rfl⟩ := hy
    have X := kin_of GD ok R
    split at h
    · rename_i C d tb cx e1
      split at h
      · rename_i hC
        refine xa3 (hc C hC) fun xd hg ha => ?_
        split at h
        · rename_i es e2
          split at h
          · rename_i v e3
            split at h
            · rename_i hb
              refine xe3 (id R) fun g m news r => ?_
              obtain ⟨ob, hm, hd', ⟨vs, sl, rfl, _⟩, _⟩ := r.lr.get (Hp.exc_eq e1)
              obtain ⟨od, hm2, es', c, rfl, hes⟩ := r.lr.get (Hp.dict_eq e2)
              refine xe12 (getL_some hk hes e3) fun u' hu hr => ?_
              exact xget xd hg ha X ⟨(r.nw _ hm).1, rfl, rfl, (r.nw _ hm2).1⟩ hu (hr.handed (noB_ne hb)) (PO.here h (RelX.toks R) u' hr)
            · exact h.elim
          · exact h.elim
        · exact h.elim
      · exact h.elim
    · exact h.elim
  · exact h.elim
end
end Mine
end
-- M27
section
open PySem PySem.W PySem.Spec
set_option Elab.async false
set_option linter.all false
namespace Mine
set_option maxRecDepth 100000
section
variable {w : World} {A : Around} {R : Result → Shared → Prop} {h : Heap} {g : Array GenState} {d : Drawn} {t : Nat} {os : OsState}
variable {nm q : Str} {C N : Addr} {bs bm : List Value} {hdct : Bool} {sn : List Str} {sub : List Value} {ab : Bool} {col : Option Bool} {dd : Option Addr} {k0 k1 k2 k3 k5 : Option Value}
theorem xc_check_init {M : Model} {E : Value → Shared → Prop} (hb : lineOk bm = true) {e : Addr} {oe : Obj} {rest : List Value} {Q : Unit → Shared → Prop} (hC : h.get? C = some (excClassObj nm q C N bs bm hdct sn sub ab col dd k0 k1 k2 k3 k5 "ValueError.__new__"))
    (he : h.get? e = some oe) (hcls : oe.cls = .ref C) (hq : Q () ⟨h, g, d, t, os⟩) : wpAny M A (checkBuiltinCall "ValueError.__init__" ⟨.ref e :: rest, []⟩) Q E ⟨h, g, d, t, os⟩ := by
  simp only [lineOk, Bool.and_eq_true, Bool.not_eq_true'] at hb
  have hcB := cons_has (C := C) hb.1.1.1.1
  have F := PySem.F.excBase_ValueError
  have hshort := F.noStar
  unfold checkBuiltinCall
  rw [F.initKind, F.initSplit]
  dsimp only
  repeat (first | (with_reducible refine wpAny_loadPart_at he ?_; rw [hcls]) | with_reducible refine wpAny_loadPart_at hC ?_ | (with_reducible refine wpAny_isSubtype_exc hC ?_; rw [hcB]) | wp_step)
  refine wpAny_onRaise ?_
  rw [show ∀ (a b : String) (n : Nat), Bind.check ⟨.positional, "*", "ValueError", .self, [⟨"args", .varPos, false⟩]⟩ a b n (List.map (fun x => x.fst) ({ pos := Value.ref e :: rest } : Args).kw) = pure () from
    fun a b n => check_star_args _ _ _ _ _ _]
  exact wpAny_pure hq
theorem xc_init {E : Value → Shared → Prop} (hb : lineOk bm = true) {e : Addr} {dx : Option Addr} {vs : Array Value} {sl : Array (Option Value)} {v : Value} {Q : Value → Shared → Prop} (hC : h.get? C = some (excClassObj nm q C N bs bm hdct sn sub ab col dd k0 k1 k2 k3 k5 "ValueError.__new__"))
    (he : h.get? e = some ⟨.ref C, dx, .fields vs, sl⟩) (h6 : vs.size = 6)
    (hq : ∀ h', (∀ b o, b ≠ e → h.get? b = some o → h'.get? b = some o) → h'.get? e = some ⟨.ref C, dx, .fields (vs.setIfInBounds 0 (.ref h.objs.size)), sl⟩ → Q .none ⟨h', g, d, t, os⟩) :
    wpAny (model PR w) A (call (.builtin "ValueError.__init__") [.ref e, v]) Q E ⟨h, g, d, t, os⟩ := by
  have F := PySem.F.excBase_ValueError
  refine wpAny_call (codeAny_call_builtin F.init.plain F.initEntry (xc_check_init hb hC he rfl ?_))
  unfold Builtin.«BaseException.__init__»
  dsimp only
  rw [if_neg (by decide)]
  have hp : (h.push { cls := .type "tuple", data := .seq [v].toArray }).get? e = some _ := Heap.get?_push_of_some _ he
  have hsz : 0 < vs.size := by lia
  have h0 : vs[0]? = some vs[0] := by simp [hsz]
  generalize vs[0] = v0 at h0
  unfold newTuple
  refine wpAny_bind (wpAny_newObj_type ?_ (by size_fits))
  unfold Builtin.BaseException.bexcPut
  refine wpAny_bind (wpAny_bind (wpAny_field hp rfl h0 (wpAny_bind (wpAny_setField hp rfl hsz ?_))))
  have hg := Heap.get?_update_self (Obj.mapFields (·.setIfInBounds 0 (Value.ref h.objs.size))) hp rfl
  have fin := hq _ (fun b o hb' eb => (Heap.get?_update_other _ _ (Ne.symm hb')).trans (Heap.get?_push_of_some _ eb)) hg
  induction v0 <;> (wp_walk; exact fin)
end
end Mine
end
-- M28
section
open PySem PySem.W PyProof.Rows PySem.Calls PySem.Spec
set_option Elab.async false
set_option linter.all false
namespace Mine
set_option maxRecDepth 100000
section
variable {w : World} {p : Program} {loose : List Str} {mean : ExcName → Option Value} {mg mb : Str → Option Value} {G0 : Heap} {lv : Nat} {st : Sta}
/-- ValueError.__init__ upon an own exception -/
noncomputable def fVinit (cs : List Addr) (xs : List AV) (H : Hp) : Res AV := match xs with
  | [.ref i, _] => (match H.exc i with
    | some (C, d, tb, cx) => if C ∈ cs then .ok .none (H.set i (.exc C d tb cx)) else .stuck
    | none => .stuck)
  | _ => .stuck
theorem O_vinit (GD : Gd w p loose mean mg mb G0) {cs : List Addr} (hc : ∀ C ∈ cs, XD w C) : SOn w G0 lv st (fun vs => call (.builtin "ValueError.__init__") vs) (fVinit cs) := fun a φ F H s Qc Ec xs vs ok R hx h => by
  unfold fVinit at h
  split at h
  · rename_i i y
    split at h
    · rename_i C d tb cx e1
      split at h
      · rename_i hC
        cases hx with
        | cons hx0 t =>
          cases t with
          | cons hx1 t =>
            cases t
            obtain ⟨hi, rfl⟩ := hx0
            have X := kin_of GD ok R
            refine xe3 (id R) fun g m news r => ?_
            obtain ⟨ob, hm, hd', ⟨vs, sl, rfl, h6, h1, h2⟩, htb⟩ := r.lr.get (Hp.exc_eq e1)
            obtain ⟨nm, q, N, bs, bm, sn, sub, ab, col, dd, k0, k1, k2, k3, k5, hl, hb, _⟩ := (hc C hC).ex
            obtain ⟨hp, gg, dd', tk, os⟩ := s
            refine xc_init hb (X _ _ hl) (r.nw _ hm).1 h6 fun h' hk hg => ?_
            exact h φ _ (r.hset (k := tk) (Hp.exc_eq e1) (ao' := .exc C d tb cx) hk hg ⟨hd', ⟨_, sl, rfl, by simp only [Array.size_setIfInBounds]; exact h6, by rw [Array.getElem?_setIfInBounds_ne (by decide)]; exact h1, fun q => by rw [Array.getElem?_setIfInBounds_ne (by decide)]; exact h2 q⟩, htb⟩) .refl _ rfl
      · exact h.elim
    · exact h.elim
  · exact h.elim
theorem meta_ve : typeOf (.type "ValueError") = pure (.type "type") := by show (pure _ : Sem Value) = _; kernel_rfl
theorem stub_ve : Manifest.isStub "ValueError" = false := by decide +kernel
theorem hand_ve : handedIn (.builtin "ValueError.__init__") = true := by decide +kernel
set_option maxHeartbeats 1000000 in
theorem S_vinit (GD : Gd w p loose mean mg mb G0) {o e : Expr} {es : List Expr} {ap pos : Pos} {DA : Frm → Hp → Res (List AV)} {D : List AV → Hp → Res AV} (hn : SE w G0 lv st o (fun _ H => .ok (.typ "ValueError") H)) (hf : findCls (hd.heap_39 w.params) (.type "ValueError") (.type "type") "__init__" = some (.val (.builtin "ValueError.__init__"))) (ha : SA w G0 lv st (e :: es) DA)
    (ho : SOn w G0 lv st (fun vs => call (.builtin "ValueError.__init__") vs) D)
    (hs : ∀ env : Env, starEach (e :: es) env = (false, eval e env) :: starEach es env) (hs2 : ∀ env : Env, ((backTo pos (starEach es env)).any (·.1)) = false) (pl : Env → Sem Bool)
    (hc : ∀ env : Env, eval (.Call (.Attribute o "__init__" ap) (e :: es) [] pos) env = (do let ov ← eval o env; standAt ap.atName; let y ← holding [ov] (getMethod ov "__init__" (pl env)); callWith pos y.1 y.2 (backTo pos (starEach (e :: es) env)) [])) :
    SE w G0 lv st (.Call (.Attribute o "__init__" ap) (e :: es) [] pos) (fun F H => (DA F H).bind D) := fun a φ F H s Qc Ec ok R h =>
  MethodCall_ (hn a φ F H s _ Ec ok R fun φ1 s1 R1 X1 v hv => by
    subst hv
    refine xe3 (id R1) fun g m news r => ?_
    refine method_type (K := hd.heap_39 w.params) (T := "ValueError") (name := "__init__") (v := .builtin "ValueError.__init__") r.fr (GD.X.keeps (ok.base r.turn)) meta_ve stub_ve hf hand_ve ?_
    have R2 : RelX w a φ1 F H { s1 with toks := s1.toks + 1 } := R1.toks
    exact callWith_method1 (first := []) (ha a φ1 F H _ _ Ec pos ok R2 (PO.bind2 (PO.weak h X1) fun xs φ2 H2 s2 R2 X2 h' vs hvs => ho a φ2 F H2 s2 Qc Ec xs vs ok R2 hvs h')) (hs _) (hs2 _)) (hc _)
/-- C.__init__(self, ..) of an own class -/
theorem S_cinit (GD : Gd w p loose mean mg mb G0) {o e : Expr} {C f : Addr} {x : Str} {mc : Value} {es : List Expr} {ap pos : Pos} {DA : Frm → Hp → Res (List AV)} {D : List AV → Hp → Res AV} (hn : SE w G0 lv st o (fun _ H => .ok (.glob C) H))
    (hsp : specialIn (hd.heap_39 w.params) (.ref C) "__getattribute__" = some (some (.builtin "type.__getattribute__"))) (hr : readsIn (hd.heap_39 w.params) C mc = true) (hf : findCls (hd.heap_39 w.params) (.ref C) mc x = some (.val (.ref f))) (hk : keepIn (hd.heap_39 w.params) (.ref f) = true) (ha : SA w G0 lv st (e :: es) DA)
    (ho : SOn w G0 lv st (fun vs => call (.ref f) vs) D)
    (hs : ∀ env : Env, starEach (e :: es) env = (false, eval e env) :: starEach es env) (hs2 : ∀ env : Env, ((backTo pos (starEach es env)).any (·.1)) = false) (pl : Env → Sem Bool)
    (hc : ∀ env : Env, eval (.Call (.Attribute o x ap) (e :: es) [] pos) env = (do let ov ← eval o env; standAt ap.atName; let y ← holding [ov] (getMethod ov x (pl env)); callWith pos y.1 y.2 (backTo pos (starEach (e :: es) env)) [])) :
    SE w G0 lv st (.Call (.Attribute o x ap) (e :: es) [] pos) (fun F H => (DA F H).bind D) := fun a φ F H s Qc Ec ok R h =>
  MethodCall_ (hn a φ F H s _ Ec ok R fun φ1 s1 R1 X1 v hv => by
    subst hv
    have X := kin_of GD ok R1
    refine method_cls X hsp (cls_value X hr hf rfl ?_)
    have R2 : RelX w a φ1 F H { s1 with toks := s1.toks + 1 } := R1.toks
    refine xe3 (id R2) fun g m news r => ?_
    refine callWith_K (GD.X.keeps (ok.base r.turn)) hk (ha a φ1 F H _ _ Ec pos ok R2 (PO.bind2 (PO.weak h X1) fun xs φ2 H2 s2 R2 X2 h' vs hvs => ⟨kin_of GD ok R2, ho a φ2 F H2 s2 Qc Ec xs vs ok R2 hvs h'⟩)) (hs _) (hs2 _)) (hc _)
end
end Mine
end
-- M30
section
open PySem PySem.W PyProof.Rows PySem.Calls PySem.Spec Builtin Float
set_option Elab.async false
set_option linter.all false
namespace Mine
set_option maxRecDepth 100000
section
variable {w : World} {p : Program} {loose : List Str} {mean : ExcName → Option Value} {mg mb : Str → Option Value} {G0 : Heap} {lv : Nat} {st : Sta}
noncomputable def hexF : FormatSpec := { align := 62, type := some 120 }
theorem hex_parse : parseFormatSpec (Str.ofString "x").cps.toList "int" 62 = .ok hexF := by with_unfolding_all rfl
theorem ret_len {M : PySem.Model} {A : Around} {E : Value → Shared → Prop} {s : Shared} {y : Str} {Q : PySem.Fin → Shared → Prop} (hl : y.length ≤ 21) (h : y.length ≤ 21 → ∀ t tk, Q (.done (.ret (.str y t))) { s with toks := tk }) : wpAny M A (retStr y) Q E s := by
  unfold retStr
  exact wpAny_bind (wpAny_mkStr (wpAny_pure (h hl _ _)) (by rw [sizeLine_eq]; lia))
set_option maxHeartbeats 4000000 in
theorem hex_field {A : Around} {E : Value → Shared → Prop} {s : Shared} {a : Int} {t : Tok} {f : FormatSpec} {Q : Value → Shared → Prop} (hlt : (Nat.toDigits 16 a.natAbs).length ≤ 20) (hp : parseFormatSpec (Str.ofString "x").cps.toList "int" 62 = .ok f)
    (hty : f.type.getD (if (Str.ofString "x").cps.back? == some 0 then 0 else 100) = 120) (hpr : f.precision = none) (hz : f.noNeg0 = false) (hal : f.alt = false) (hw : f.width = none) (hgr : f.grouping = none) (hsg : f.sign = none)
    (h : ∀ y t tk, Str.length y ≤ 21 → Q (.str y t) { s with toks := tk }) : wpAny (model PR w) A (formatField (.int a t) "x") Q E s := by
  have hlen : (intField' f (decide (a < 0)) [] ((Nat.toDigits 16 a.natAbs).map fun c => (if (120 : Nat) == 88 then c.toUpper else c).toNat) [] 4).length ≤ 21 := by
    rw [intField'_length_plain f _ _ 4 hgr hsg (by
      have := tDigits_len_ge 16 a.natAbs
      induction q : (Nat.toDigits 16 a.natAbs) with
      | nil => rw [q] at this; simp at this
      | cons _ _ => rfl), hw, List.length_map]
    show max 0 _ ≤ 21
    split <;> lia
  show wpAny _ _ (holding [.int a t] (pyFormat (.int a t) "x")) Q E s
  refine wpAny_holding ?_
  unfold pyFormat
  refine wpAny_bind (wpAny_mkStr ?_ (by decide))
  refine wpAny_bind (m := callSpecial? (.int a t) (Str.ofString "__format__") [.str "x" s.toks]) (wpAny_callSpecial?_slot (name := Str.ofString "__format__") (typeIs_int _ a t) slot_int_format ?_)
  refine wpAny_call (codeAny_call_builtin slot_int_format.plain entry_int_format (slot_int_format.check _ _ _ _ _ _ _ _ (typeIs_int _ a t) (args_int_format _ _) ?_))
  unfold Builtin.«int.__format__»
  refine wpAny_bind (show wpAny _ _ (pure (Value.int a t, Value.str "x" s.toks)) _ _ _ from wpAny_pure ?_)
  refine wpAny_bind (show wpAny _ _ (pure a) _ _ _ from wpAny_pure ?_)
  show wpAny _ _ (if _ then _ else _) _ _ _
  rw [if_neg (show ¬ (Value.str (Str.ofString "x") s.toks == Value.none) = true from Bool.false_ne_true)]
  refine wpAny_bind (wpAny_typeNameOf (T := "str") (typeIs_str _ _ _) (by decide) fun _ => ?_)
  refine wpAny_bind (show wpAny _ _ (pure (some (Str.ofString "x"))) _ _ _ from wpAny_pure ?_)
  show wpAny _ _ (if _ then _ else _) _ _ _
  rw [if_neg (by decide)]
  show wpAny _ _ (if _ then _ else _) _ _ _
  rw [if_neg (by decide)]
  refine wpAny_bind (wpAny_typeNameOfCut_int ?_)
  simp only [hp, hty]
  rw [if_pos (by decide)]
  show wpAny _ _ (if _ then _ else _) _ _ _
  rw [if_neg (by simp [hpr])]
  show wpAny _ _ (if _ then _ else _) _ _ _
  rw [if_neg (by simp [hz])]
  show wpAny _ _ (if _ then _ else _) _ _ _
  rw [if_neg (by decide)]
  show wpAny _ _ (if _ then _ else _) _ _ _
  rw [if_neg (by decide)]
  show wpAny _ _ (if _ then _ else _) _ _ _
  rw [if_neg (by simp [hw])]
  show wpAny _ _ (retStr _) _ _ _
  refine ret_len ?_ fun hl t' tk => ?_
  · simp only [hal, Bool.false_eq_true, if_false, show ((16 : Nat) == 10) = false by decide]
    conv => lhs; arg 1; whnf
    simp only [intField', hgr, hsg, hal, Bool.false_eq_true, if_false] at hlen ⊢
    exact hlen
  · dsimp only
    refine wpAny_bind (wpAny_isInstance (typeIs_str _ _ _) isSubtype_str_str (wpAny_pure ?_))
    exact h _ _ _ hl
end
end Mine
end
-- M31
section
open PySem PySem.W PyProof.Rows PySem.Calls PySem.Spec
set_option Elab.async false
set_option linter.all false
namespace Mine
set_option maxRecDepth 100000
section
variable {w : World} {p : Program} {loose : List Str} {mean : ExcName → Option Value} {mg mb : Str → Option Value} {G0 : Heap} {lv : Nat} {st : Sta}
noncomputable abbrev UX := Frm → Hp → Res Unit
noncomputable abbrev EX := Frm → Hp → Res AV
noncomputable abbrev TX := Frm → Hp → Res Bool
noncomputable abbrev AX := Frm → Hp → Res (List AV)
noncomputable abbrev ST := Frm → Hp → RS
/-- a part of a text -/
noncomputable def SP (w : World) (G0 : Heap) (lv : Nat) (st : Sta) (e : Expr) (D : UX) : Prop :=
  ∀ (a : Act) (φ : Nat → Addr) (F : Frm) (H : Hp) (s : Shared) (Qc : Value → Shared → Prop) (Ec : Value → Shared → Prop), a.Ok st lv G0 → RelX w a φ F H s →
    PO w a φ H.next F (D F H) (fun _ φ' H' s' => ∀ y t tk, Str.length y ≤ 30 → Qc (.str y t) { s' with toks := tk }) Ec → wpAny (model PR w) a.A (eval e (a.env st)) Qc Ec s
noncomputable def pK : UX := fun _ H => .ok () H
noncomputable def pHex (D : EX) : UX := fun F H => (D F H).bind fun v H1 => match v with | .int n => if n.natAbs < 16 ^ 20 then .ok () H1 else .stuck | _ => .stuck
noncomputable def pDec (D : EX) : UX := fun F H => (D F H).bind fun v H1 => match v with | .int n => if 0 ≤ n ∧ n < 10 ^ 10 then .ok () H1 else .stuck | _ => .stuck
theorem P_const {x : Str} {k : Nat} {pos : Pos} (hx : x.length ≤ 30) : SP w G0 lv st (.Constant (.str x) k pos) pK := fun a φ F H s Qc Ec ok R h =>
  wpAny_Constant_str (PO.here h R x _ _ hx)
theorem P_hex {e : Expr} {k : Nat} {p1 p2 pos : Pos} {D : EX} (h1 : SE w G0 lv st e D) : SP w G0 lv st (.FormattedValue e (-1) (some (.JoinedStr [.Constant (.str "x") k p1] p2)) pos) (pHex D) := fun a φ F H s Qc Ec ok R h => by
  unfold pHex at h
  exact wpAny_FormattedValue_spec (h1 a φ F H s _ Ec ok R (PO.bind2 (k := fun v H1 => match v with | .int n => if n.natAbs < 16 ^ 20 then .ok () H1 else .stuck | _ => .stuck) h fun v φ1 H1 s1 R1 X1 h' u hu => by
    induction v <;> try exact h'.elim
    rename_i n
    obtain ⟨t, rfl⟩ := hu
    dsimp only at h'
    split at h'
    · rename_i hn
      refine JoinedStr_one (wpAny_Constant_str ⟨_, _, rfl, ?_⟩)
      have hf := hex_parse
      exact hex_field (PySem.StrLaws.toDigits_len (k := 20) (by decide) hn) hf (by decide) rfl rfl rfl rfl rfl rfl fun y t tk hy => PO.here h' R1 y t tk (Nat.le_trans hy (by decide))
    · exact h'.elim))
theorem P_dec {e : Expr} {pos : Pos} {D : EX} (h1 : SE w G0 lv st e D) : SP w G0 lv st (.FormattedValue e (-1) none pos) (pDec D) := fun a φ F H s Qc Ec ok R h => by
  unfold pDec at h
  exact FormattedValue_plain (h1 a φ F H s _ Ec ok R (PO.bind2 (k := fun v H1 => match v with | .int n => if 0 ≤ n ∧ n < 10 ^ 10 then .ok () H1 else .stuck | _ => .stuck) h fun v φ1 H1 s1 R1 X1 h' u hu => by
    induction v <;> try exact h'.elim
    rename_i n
    obtain ⟨t, rfl⟩ := hu
    dsimp only at h'
    split at h'
    · rename_i hn
      have hl : n.natAbs.log2 < 1920 := by
        by_cases h0 : n.natAbs = 0
        · rw [h0]; decide
        · have : n.natAbs < 2 ^ 40 := by have := hn.1; have := hn.2; lia
          exact Nat.lt_trans ((Nat.log2_lt h0).mpr this) (by decide)
      exact wpAny_formatField_int hl (PO.here h' R1 _ _ _ (Nat.le_trans (toString_length_le hn.1 (by decide) hn.2) (by decide)))
    · exact h'.elim))
noncomputable def SPs (w : World) (G0 : Heap) (lv : Nat) (st : Sta) (es : List Expr) (D : UX) : Prop :=
  ∀ (a : Act) (φ : Nat → Addr) (F : Frm) (H : Hp) (s : Shared) (Qc : Value → Shared → Prop) (Ec : Value → Shared → Prop) (out : Str), a.Ok st lv G0 → RelX w a φ F H s → out.length + 30 * es.length ≤ 1000 →
    PO w a φ H.next F (D F H) (fun _ φ' H' s' => ∀ y t tk, Qc (.str y t) { s' with toks := tk }) Ec → wpAny (model PR w) a.A (joinParts out (evalEach es (a.env st))) Qc Ec s
noncomputable def pN : UX := fun _ H => .ok () H
noncomputable def pC (D1 D2 : UX) : UX := fun F H => (D1 F H).bind fun _ H1 => D2 F H1
theorem P_nil : SPs w G0 lv st [] pN := fun a φ F H s Qc Ec out ok R hl h => joinParts_nil (PO.here h R _ _ _) (size_ok (by simp at hl; lia))
theorem P_cons {e : Expr} {es : List Expr} {D1 D2 : UX} (h1 : SP w G0 lv st e D1) (h2 : SPs w G0 lv st es D2) : SPs w G0 lv st (e :: es) (pC D1 D2) := fun a φ F H s Qc Ec out ok R hl h => by
  unfold pC at h
  exact joinParts_cons (h1 a φ F H s _ Ec ok R (PO.bind2 h fun _ φ1 H1 s1 R1 X1 h' y t tk hy => by
    have hlen : (out ++ y).length + 30 * es.length ≤ 1000 := by
      rw [strLen_append]
      rw [List.length_cons] at hl
      lia
    exact ⟨size_ok (by lia), h2 a φ1 F H1 _ Qc Ec (out ++ y) ok (R1.toks (k := tk)) hlen (h'.mono fun _ _ _ _ _ z => z)⟩))
noncomputable def eF (D : UX) : EX := fun F H => (D F H).bind fun _ H1 => .ok .txt H1
theorem S_join {e1 e2 : Expr} {es : List Expr} {pos : Pos} {D : UX} (h1 : SPs w G0 lv st (e1 :: e2 :: es) D) (hl : (e1 :: e2 :: es).length ≤ 30) : SE w G0 lv st (.JoinedStr (e1 :: e2 :: es) pos) (eF D) := fun a φ F H s Qc Ec ok R h => by
  unfold eF at h
  exact JoinedStr_many (h1 a φ F H s Qc Ec Str.empty ok R (by show 0 + _ ≤ _; lia) (PO.bind2 (k := fun _ H1 => .ok AV.txt H1) h fun _ φ1 H1 s1 R1 X1 h' y t tk => PO.here h' (R1.toks (k := tk)) _ ⟨y, t, rfl⟩))
end
end Mine
end
-- M32
section
open PySem PySem.W PyProof.Rows PySem.Calls PySem.Spec
set_option Elab.async false
set_option linter.all false
namespace Mine
set_option maxRecDepth 100000
section
variable {w : World} {p : Program} {loose : List Str} {mean : ExcName → Option Value} {mg mb : Str → Option Value} {G0 : Heap} {lv : Nat} {st : Sta}
theorem Rel.hpush' {a : Act} {φ : Nat → Addr} {F : Frm} {H : Hp} {s : Shared} {g : Heap} {m : Str → Option Value} {news : List (Addr × Obj)} (r : Rel w a φ F H s g m news) {ob : Obj} {ao : AO} {k : Nat} (hf : ob.isFreed = false) (ho : OR (upφ φ H.next s.heap.objs.size) (H.next + 1) w ao ob) (hk : noCode ao = true := by rfl) :
    RelX w a (upφ φ H.next s.heap.objs.size) F (H.push ao) { s with heap := s.heap.push ob, toks := k } := by
  have fresh : ∀ q ∈ news, q.1 ≠ s.heap.objs.size := fun q hq e => by
    have := Heap.lt_size (r.nw q hq).1
    rw [e] at this; exact Nat.lt_irrefl _ this
  refine ⟨g, m, _, ⟨r.fr.push _, fun q hq => ?_, r.lr.push' ho fresh hk, fun c x v hc e => ?_, r.cl.mono fun p q h => h.ext .up, r.turn, r.same⟩⟩
  · rcases List.mem_cons.mp hq with rfl | hq
    · exact ⟨Heap.get?_push_size _ hf, fun e => Nat.lt_irrefl _ (show s.heap.objs.size < s.heap.objs.size by have := r.fr.ns.lt; rw [← e] at this; exact this), next_is_new r.fr⟩
    · exact ⟨Heap.get?_push_of_some _ (r.nw q hq).1, (r.nw q hq).2⟩
  · obtain ⟨u, h1, h2⟩ := r.loc c x v hc e; exact ⟨u, h1, h2.ext .up⟩
/-- {} for a table of ints -/
noncomputable def eDict0 : Frm → Hp → Res AV := fun _ H => .ok (.ref H.next) (H.push (.idict H.next []))
theorem S_dict0 (GD : Gd w p loose mean mg mb G0) {pos : Pos} : SE w G0 lv st (.Dict [] [] pos) eDict0 := fun a φ F H s Qc Ec ok R h => by
  refine xe3 (R) fun g m news r => ?_
  have hbig : g.NoLimit := GD.T.nolimit.keeps (ok.base r.turn)
  have hn : upφ φ H.next s.heap.objs.size H.next = s.heap.objs.size := if_pos rfl
  exact wpAny_Dict_empty (h _ _ (r.hpush' (k := s.toks) (ao := .idict H.next []) rfl ⟨Nat.lt_succ_self _, by rw [hn]; exact r.fr.notModules (modules_low hbig), [], ⟨#[], 0, ⟨rfl, rfl, rfl⟩, rfl, fun _ he => by simp at he, Pairs.nil, List.nodup_nil⟩, .nil⟩) .up _ vr_new)
end
end Mine
end
-- M33
section
open PySem PySem.W PyProof.Rows PySem.Calls PySem.Spec
set_option Elab.async false
set_option linter.all false
namespace Mine
set_option maxRecDepth 100000
noncomputable def putZ (x : Int) (v : AV) : List (Int × AV) → List (Int × AV)
  | [] => [(x, v)]
  | p :: l => if p.1 = x then (x, v) :: l else p :: putZ x v l
theorem storedZ {φ : Nat → Addr} {n : Nat} {x : Int} {v : AV} {u : Value} (hv : VR φ n v u) {es : List (Int × AV)} {kvs : List (Int × Value)} (h : All2 (fun p q => q.1 = p.1 ∧ VR φ n p.2 q.2) es kvs) : (kvs.map (·.1)).Nodup → All2 (fun p q => q.1 = p.1 ∧ VR φ n p.2 q.2) (putZ x v es) (stored kvs x u) := by
  induction h with
  | nil => exact fun _ => .cons ⟨rfl, hv⟩ .nil
  | @cons p q l r hd t ih =>
    intro hn
    obtain ⟨k, a⟩ := p
    obtain ⟨k', b⟩ := q
    refine xa2 (hd) fun h1 h2 => ?_
    dsimp only at h1 h2
    subst h1
    rw [List.map_cons, List.nodup_cons] at hn
    have ih := ih hn.2
    unfold putZ
    unfold stored at ih ⊢
    rw [List.any_cons]
    by_cases h : k' = x
    · subst h
      rw [if_pos rfl]
      simp only [decide_true, Bool.true_or, if_true, List.map_cons]
      refine .cons ⟨rfl, hv⟩ ?_
      have : r.map (fun kv => if kv.1 = k' then (kv.1, u) else kv) = r := by
        have hh : ∀ q ∈ r, q.1 ≠ k' := fun q hq e => hn.1 (List.mem_map.mpr ⟨q, hq, e⟩)
        rw [List.map_congr_left (g := id) (fun q hq => by simp [hh q hq])]; simp
      rw [this]; exact t
    · rw [if_neg h]
      simp only [h, decide_false, Bool.false_or]
      split at ih
      · rename_i q; rw [if_pos q, List.map_cons, if_neg h]; exact .cons ⟨rfl, h2⟩ ih
      · rename_i q; rw [if_neg q]; exact .cons ⟨rfl, h2⟩ ih
theorem valZ {φ : Nat → Addr} {n : Nat} {x : Int} {es : List (Int × AV)} {kvs : List (Int × Value)} (h : All2 (fun p q => q.1 = p.1 ∧ VR φ n p.2 q.2) es kvs) : match es.lookup x with | some v => ∃ u, valueAt kvs x = some u ∧ VR φ n v u | none => valueAt kvs x = none := by
  induction h with
  | nil => rfl
  | @cons p q l r hd t ih =>
    obtain ⟨k, a⟩ := p
    obtain ⟨k', u⟩ := q
    refine xa2 (hd) fun h1 h2 => ?_
    dsimp only at h1 h2
    subst h1
    rw [List.lookup_cons]
    unfold valueAt at ih ⊢
    rw [List.find?_cons]
    by_cases h : x = k'
    · subst h
      rw [beq_self_eq_true]
      exact ⟨u, by simp, h2⟩
    · rw [show (x == k') = false from by simpa using h]
      have : decide (k' = x) = false := decide_eq_false fun q => h q.symm
      simp only [this]
      exact ih
section
variable {w : World} {p : Program} {loose : List Str} {mean : ExcName → Option Value} {mg mb : Str → Option Value} {G0 : Heap} {lv : Nat} {st : Sta}
noncomputable def setZ : AV → AV → AV → Hp → Res Unit
  | .ref i, .int k, v, H => (match H.idict i with
    | some (self, es) => if es.length < 900 then .ok () (H.set i (.idict self (putZ k v es))) else .stuck
    | none => .stuck)
  | _, _, _, _ => .stuck
theorem O_setZ : SU3 w G0 lv st setItem setZ := fun a φ F H s Qc Ec x y z v u t' ok R hx hy hz h => by
  unfold setZ at h
  split at h
  · rename_i j k
    obtain ⟨hj, rfl⟩ := hx
    obtain ⟨t, rfl⟩ := hy
    refine xe3 (R) fun g m news r => ?_
    split at h
    · rename_i self es e1
      refine xe13 (r.lr.upd (Hp.idict_eq e1)) fun ob hob hm hup => ?_
      obtain ⟨hi, hlo, kvs, hd, hkv⟩ := hob
      split at h
      · rename_i hl
        refine xe12 (hup (a' := .idict self es) (o' := ob) ⟨hi, hlo, kvs, hd, hkv⟩) fun n0 u0 _ => ?_
        refine xe12 (Mine.Upd.fn u0) fun gf uf ug => ?_
        have hn : (kvs.map (·.1)).Nodup := by obtain ⟨_, _, _, _, _, _, q⟩ := hd; exact q
        refine kda_set (knd := intKind PR w) r.fr r.nw uf hd (intKind_is _ _ _ _) (size_ok (by have := hkv.length; lia)) (fun h' o' F' N' hd' => ?_)
        refine xe12 (hup (a' := .idict self (putZ k z es)) (o' := o') ⟨hi, hlo, _, hd', storedZ hz hkv hn⟩) fun n1 u1 l1 => ?_
        rw [Mine.Upd.uniq (ug o') u1] at N'
        exact h φ _ ⟨g, m, n1, ⟨F', N', l1, r.loc, r.cl, r.turn, r.same⟩⟩ .refl
      · exact h.elim
    · exact h.elim
  · exact h.elim
/-- d.get(k, e) of a table of ints -/
noncomputable def getZ (i : Nat) (xs : List AV) (H2 : Hp) : Res AV := match xs with
  | [.int k, d] => (match H2.idict i with
    | some (s2, es) => if s2 = i then .ok ((es.lookup k).getD d) H2 else .stuck
    | none => .stuck)
  | _ => .stuck
noncomputable def eGetZ (D0 : EX) (DA : AX) : EX := fun F H => (D0 F H).bind fun v H1 => match v with
  | .ref i => (match H1.idict i with
    | some _ => (DA F H1).bind fun xs H2 => getZ i xs H2
    | none => .stuck)
  | _ => .stuck
theorem S_getZ {o e : Expr} {es : List Expr} {ap pos : Pos} {D0 : EX} {DA : AX} (h0 : SE w G0 lv st o D0) (ha : SA w G0 lv st (e :: es) DA)
    (hs : ∀ env : Env, starEach (e :: es) env = (false, eval e env) :: starEach es env) (hs2 : ∀ env : Env, ((backTo pos (starEach es env)).any (·.1)) = false) (pl : Env → Sem Bool)
    (hc : ∀ env : Env, eval (.Call (.Attribute o "get" ap) (e :: es) [] pos) env = (do let ov ← eval o env; standAt ap.atName; let y ← holding [ov] (getMethod ov "get" (pl env)); callWith pos y.1 y.2 (backTo pos (starEach (e :: es) env)) [])) :
    SE w G0 lv st (.Call (.Attribute o "get" ap) (e :: es) [] pos) (eGetZ D0 DA) := fun a φ F H s Qc Ec ok R h => by
  unfold eGetZ at h
  refine MethodCall_ (h0 a φ F H s _ Ec ok R (PO.bind2 h fun y φ1 H1 s1 R1 X1 h' v hv => ?_)) (hc _)
  split at h'
  · rename_i i
    split at h'
    · rename_i q e1
      obtain ⟨self, es1⟩ := q
      have R1' := R1
      refine xe3 (R1') fun g m news r => ?_
      obtain ⟨hi, rfl⟩ := hv
      obtain ⟨ob, hm, _, _, kvs, hd, hkv⟩ := r.lr.get (Hp.idict_eq e1)
      refine kdg_method (knd := intKind PR w) r.nw hm hd ?_
      refine callWith_method1 (first := [.ref (φ1 i)]) (ha a φ1 F H1 s1 _ Ec pos ok R1 (PO.bind2 h' fun xs φ2 H2 s2 R2 X2 h'' vs hvs => ?_)) (hs _) (hs2 _)
      unfold getZ at h''
      split at h''
      · rename_i k dv
        split at h''
        · rename_i s2' es2 e2
          split at h''
          · rename_i hs2'
            subst hs2'
            cases hvs with
            | cons hx0 t => cases t with
              | cons hx1 t =>
                cases t
                obtain ⟨tk, rfl⟩ := hx0
                rename_i dval
                refine xe3 (id R2) fun g2 m2 news2 r2 => ?_
                obtain ⟨ob2, hm2, hlt, hlo, kvs2, hd2, hkv2⟩ := r2.lr.get (Hp.idict_eq e2)
                rw [← X2.2 _ hi]
                refine kdg_get2 (knd := intKind PR w) (k := k) r2.nw hm2 hd2 hlo (intKind_is _ _ _ _) (valueAt kvs2 k) rfl (PO.here h'' (R2.toks (k := s2.toks + 1)) _ ?_)
                have := valZ (x := k) hkv2
                induction q : es2.lookup k with
                | none => rw [q] at this; rw [this]; exact hx1
                | some v => rw [q] at this; obtain ⟨u, q1, q2⟩ := this; rw [q1]; exact q2
          · exact h''.elim
        · exact h''.elim
      · exact h''.elim
    · exact h'.elim
  · exact h'.elim
end
end Mine
end
-- M34
section
open PySem PySem.W PyProof.Rows PySem.Calls PySem.Spec
set_option Elab.async false
set_option linter.all false
namespace Mine
set_option maxRecDepth 100000
-- the cells that a lambda or a comprehension takes along
noncomputable def closD (cl : List (Nat × Nat)) : List (Str × NameKind) → List (Nat × Nat) → Option (List (Nat × Nat))
  | [], acc => some acc
  | (n, k) :: r, acc => match k with
    | .free => if kn n then (match cl.lookup (nc n) with | some i => closD cl r ((nc n, i) :: acc) | none => none) else none
    | _ => closD cl r acc
theorem clos_go {env : Env} {φ : Nat → Addr} {m : Nat} {cl : List (Nat × Nat)} (hcl : All2 (CR φ m) cl env.cells) : ∀ {names : List (Str × NameKind)} {acc r : List (Nat × Nat)} {acc' : List (Str × Addr)}, closD cl names acc = some r → All2 (CR φ m) acc acc' →
    ∃ r', (forIn names acc' (fun (x : Str × NameKind) (cs : List (Str × Addr)) => if (x.2 == .free) = true then (do let a ← cellOf env x.1; pure (ForInStep.yield ((x.1, a) :: cs)) : Sem _) else pure (ForInStep.yield cs)) : Sem (List (Str × Addr))) = pure r' ∧ All2 (CR φ m) r r'
  | [], acc, r, acc', e, h => by obtain rfl := Option.some.inj e; exact ⟨acc', rfl, h⟩
  | (n, k) :: l, acc, r, acc', e, h => by
    rw [List.forIn_cons]
    unfold closD at e
    split at e
    · split at e
      · rename_i hk
        split at e
        · rename_i i hi
          refine xa2 (all2_cl (kn_KN hk) hcl hi) fun h1 h2 => ?_
          refine xe12 (clos_go hcl (acc' := (n, φ i) :: acc') e (.cons ⟨kn_KN hk, rfl, h2⟩ h)) fun r' e1 e2 => ?_
          refine ⟨r', ?_, e2⟩
          rw [if_pos (show ((n, NameKind.free).snd == NameKind.free) = true from rfl)]
          unfold cellOf
          dsimp only
          rw [h1]
          exact e1
        · exact no_some9 e
      · exact no_some9 e
    · rename_i hk
      refine xe12 (clos_go hcl (acc' := acc') e h) fun r' e1 e2 => ?_
      refine ⟨r', ?_, e2⟩
      rw [if_neg (by simpa using hk)]
      exact e1
theorem clos_ok {env : Env} {φ : Nat → Addr} {m : Nat} {cl r : List (Nat × Nat)} {sc : Scope} (hcl : All2 (CR φ m) cl env.cells) (e : closD cl sc.names [] = some r) : ∃ r', closureFor sc env = pure r' ∧ All2 (CR φ m) r r' := by
  refine xe12 (clos_go hcl e .nil) fun r' e1 e2 => ?_
  refine ⟨r', ?_, e2⟩
  unfold closureFor
  exact congrArg (fun t => t >>= fun cs => (pure cs : Sem (List (Str × Addr)))) e1

-- the table of code objects
theorem Trip.triples {vs : List Value} (h : Trip vs) : TriplesOk vs := by
  induction h with
  | nil => exact trivial
  | cons _ ih => exact ih
theorem Trip.among {pos : Pos} {vs : List Value} (h : Trip vs) {cv : Value} : codeAmong pos vs = some cv → ∃ c, cv = .ref c ∧ .ref c ∈ vs := by
  induction h with
  | nil => intro e; exact no_some9 e
  | @cons a b t u c r _ ih =>
    intro e
    unfold codeAmong at e
    split at e
    · obtain rfl := Option.some.inj e; exact ⟨c, rfl, .tail _ (.tail _ (.head _))⟩
    · refine xe12 (ih e) fun c' e1 h1 => ?_
      exact ⟨c', e1, .tail _ (.tail _ (.tail _ h1))⟩
theorem Trip.snoc {a b : Int} {t u : Tok} {c : Addr} {vs : List Value} (h : Trip vs) : Trip (vs ++ [.int a t, .int b u, .ref c]) := by
  induction h with
  | nil => exact .cons .nil
  | cons _ ih => exact .cons ih
theorem LRs.add {φ : Nat → Addr} {P : World} {ks sat : List (Addr × Obj)} {H : Hp} {news : List (Addr × Obj)} (L : LRs φ P ks sat H news) {c : Addr} {oc : Obj} (hf : ∀ q ∈ news, q.1 ≠ c) (hc : CodeLike oc) :
    ∃ news', LRs φ P ks ((c, oc) :: sat) H news' ∧ ∀ q ∈ news', q = (c, oc) ∨ q ∈ news := by
  refine xe12 (L.b.all) fun led e1 hall => ?_
  have out : ∀ p ∈ H.cells, φ p.1 ≠ c := fun p hp e => by
    refine xe12 (all2_off hall hp) fun q hq e2 => ?_
    exact hf q (by rw [e1]; exact List.mem_append_left _ hq) (e2.trans e)
  have mem : ∀ q ∈ led ++ ((c, oc) :: sat ++ ks), q = (c, oc) ∨ q ∈ news := fun q hq => by
    rw [e1]
    rcases List.mem_append.mp hq with hq | hq
    · exact .inr (List.mem_append_left _ hq)
    · rcases List.mem_cons.mp hq with hq | hq
      · exact .inl hq
      · exact .inr (List.mem_append_right _ hq)
  refine ⟨led ++ ((c, oc) :: sat ++ ks), ⟨⟨⟨led, rfl, hall⟩, fun p hp q hq => ?_, L.b.lt, L.b.inj, L.b.nd⟩, fun q hq => ?_, fun p hp o ho d hr => ?_⟩, mem⟩
  · rcases List.mem_cons.mp hq with rfl | hq
    · exact (out p hp).symm
    · exact L.b.off p hp q hq
  · rcases List.mem_cons.mp hq with rfl | hq
    · exact hc
    · exact L.like q hq
  · rcases mem _ ho with e | ho
    · exact absurd (congrArg Prod.fst e) (out p hp)
    · exact .tail _ (L.ref p hp o ho d hr)
theorem LRs.code {φ : Nat → Addr} {P : World} {ks sat : List (Addr × Obj)} {H : Hp} {news : List (Addr × Obj)} (L : LRs φ P ks sat H news) {i : Nat} {a : AO} (e : H.get i = some a) {o : Obj} (ho : (φ i, o) ∈ news) {c : Addr} (hr : CodeRef a o c) : ∃ oc, (c, oc) ∈ news ∧ CodeLike oc := by
  obtain ⟨q, hq, rfl⟩ := List.mem_map.mp (L.ref (i, a) (lookup_lt e) o ho c hr)
  refine xe12 (L.b.all) fun led e1 hall => ?_
  exact ⟨q.2, by rw [e1]; exact List.mem_append_right _ (List.mem_append_left _ hq), L.like q hq⟩
theorem set_same {i : Nat} {a : AO} : ∀ {l : List (Nat × AO)}, getO i l = some a → setL i a l = l
  | [], e => by exact no_some9 e
  | (j, b) :: l, e => by
    rw [getO_cons] at e
    rw [setL_cons]
    by_cases h : j = i
    · subst h; rw [beq_self_eq_true] at e; obtain rfl := Option.some.inj e; exact if_pos rfl
    · rw [show (i == j) = false from by simpa using fun z : i = j => h z.symm] at e
      rw [if_neg h, set_same e]
section
variable {w : World} {p : Program} {loose : List Str} {mean : ExcName → Option Value} {mg mb : Str → Option Value} {G0 : Heap} {lv : Nat} {st : Sta}
theorem Rel.hpushS {a : Act} {φ : Nat → Addr} {F : Frm} {H : Hp} {s : Shared} {g : Heap} {m : Str → Option Value} {news sat : List (Addr × Obj)} (r : Rel w a φ F H s g m news) (L : LRs φ w a.ks sat H news) {ob : Obj} {ao : AO} {k : Nat} (hf : ob.isFreed = false) (ho : OR φ H.next w ao ob) (hc : ∀ c, CodeRef ao ob c → c ∈ sat.map (·.1)) :
    RelX w a (upφ φ H.next s.heap.objs.size) F (H.push ao) { s with heap := s.heap.push ob, toks := k } := by
  have fresh : ∀ q ∈ news, q.1 ≠ s.heap.objs.size := fun q hq e => by
    have := Heap.lt_size (r.nw q hq).1
    rw [e] at this; exact Nat.lt_irrefl _ this
  refine ⟨g, m, _, ⟨r.fr.push _, fun q hq => ?_, ⟨sat, L.push (ho.ext .up) fresh hc⟩, fun c x v hc e => ?_, r.cl.mono fun p q h => h.ext .up, r.turn, r.same⟩⟩
  · rcases List.mem_cons.mp hq with rfl | hq
    · exact ⟨Heap.get?_push_size _ hf, fun e => Nat.lt_irrefl _ (show s.heap.objs.size < s.heap.objs.size by have := r.fr.ns.lt; rw [← e] at this; exact this), next_is_new r.fr⟩
    · exact ⟨Heap.get?_push_of_some _ (r.nw q hq).1, (r.nw q hq).2⟩
  · obtain ⟨u, h1, h2⟩ := r.loc c x v hc e; exact ⟨u, h1, h2.ext .up⟩
/-- a lambda -/
noncomputable def eLam (tid : Nat) (P : Addr) (body : Expr) (sc : Scope) : EX := fun F H => match H.tab tid with
  | some (self, P') => if self = tid ∧ P' = P then (match closD F.cl sc.names [] with
    | some cl => .ok (.ref H.next) (H.push (.lam body sc cl))
    | none => .stuck) else .stuck
  | none => .stuck
theorem S_lam (GD : Gd w p loose mean mg mb G0) {tid : Nat} {c P : Addr} {body : Expr} {sc : Scope} {pos : Pos} (hcd : st.cdv = .ref c) (C : CodeHd G0 c P) : SE w G0 lv st (.Lambda noArgs body sc pos) (eLam tid P body sc) := fun a φ F H s Qc Ec ok R h => by
  unfold eLam at h
  split at h
  · rename_i self P' e1
    split at h
    · rename_i hs
      obtain ⟨rfl, rfl⟩ := hs
      split at h
      · rename_i cl e2
        refine xe3 (R) fun g m news r => ?_
        obtain ⟨ob, hm, hi, hP, ps, rfl, hT⟩ := r.lr.get (Hp.tab_eq e1)
        refine xe12 (clos_ok (env := a.env st) r.cl e2) fun clos hclos hcr => ?_
        have sg := ok.base r.turn
        have T := GD.T.keeps sg
        refine xa3 (r.nw _ hm) fun hPs hPL hPg => ?_
        rw [hP] at hPs hPL hPg
        have hgs := T.g.keeps r.fr.keep
        obtain ⟨bm, ob, b1, b2, b3, b4, b5, b6⟩ := T.bmain
        have hgP : mainGlobals ≠ P' := fun q => by
          refine xe33 (hgs) fun o es ep e hd _ => ?_
          rw [q, hPs] at e; obtain rfl := Option.some.inj e; contradiction
        have hbP : bm ≠ P' := fun q => by
          have e := r.fr.keep _ _ b3
          rw [q, hPs] at e; obtain rfl := Option.some.inj e; contradiction
        have hbG : bm ≠ mainGlobals := fun q => by
          refine xe33 (T.g) fun o es ep e hd _ => ?_
          rw [q, e] at b3; obtain rfl := Option.some.inj b3; rw [hd] at b6; contradiction
        have hB : s.heap.BuiltinsAt mg P' := ⟨bm, ob, b1, b2, hbG, hbP, r.fr.keep _ _ b3, b4, b5, b6⟩
        refine kla_eval (show defaultsOf noArgs _ = ([], []) from rfl) ?_
        induction ham : codeAmong pos ps.toList with
        | some cv =>
          refine kla_makeFunctionHit (mg := mg) hclos rfl hgs hcd ((C.keeps sg).keeps r.fr.keep) hPs hT.triples ham hB fun ctv h' tk hk hsz => ?_
          obtain ⟨c', rfl, hc'⟩ := hT.among ham
          refine xe3 (r.grow (k := s.toks) hk) fun g2 m2 n2 r2 => ?_
          refine xe1 (r2.lr.ex) fun sat L2 => ?_
          refine xe12 (r2.lr.get (Hp.tab_eq e1)) fun o2 hm2 _ => ?_
          have ho2 : o2 = tabObj ps := by
            have e4 := (r2.nw _ hm2).1
            rw [hP] at e4
            have e5 : h'.get? P' = some (tabObj ps) := hk _ _ hPs
            exact Option.some.inj (e4.symm.trans e5)
          refine h _ _ (r2.hpushS (k := tk) L2 rfl ⟨_, _, _, c', _, clos, rfl, hcr⟩ (fun d hr => ?_)) .up _ (by
            have := @vr_new φ H.next h'.objs.size
            exact this)
          refine xe12 (hr) fun f e6 e7 => ?_
          cases e6
          cases e7
          exact L2.ref (self, .tab self P') (lookup_lt (Hp.tab_eq e1)) o2 hm2 c' (by rw [ho2]; exact ⟨ps, rfl, hc'⟩)
        | none =>
          refine kla_makeFunction (mg := mg) hclos rfl hgs hcd ((C.keeps sg).keeps r.fr.keep) hPs hT.triples ham hgP hB fun c' ctv h' tk hx hge hlt hrec htb => ?_
          obtain ⟨c₂, oc, vs, t, e2', hoc, hd', hv⟩ := hrec
          cases e2'
          have hLs : a.L < s.heap.objs.size := r.fr.ns.lt
          have hLc : a.L < c' := Nat.lt_of_lt_of_le hLs hge
          have cnone : s.heap.get? c' = none := Heap.get?_none_of_le hge
          have gfresh : ∀ b, a.L < b → g.get? b = none := fun b hb => Heap.get?_none_of_le (Nat.le_trans r.fr.above (Nat.le_of_lt hb))
          have nfresh : ∀ q ∈ news, q.1 ≠ c' := fun q hq e => by have := (r.nw q hq).1; rw [e, cnone] at this; exact no_some9 this
          refine xe1 (r.lr.ex) fun sat L0 => ?_
          refine xe12 (L0.add nfresh ⟨vs, _, t, hd', hv⟩) fun n0 L1 hn0 => ?_
          refine xe13 (L1.upd (Hp.tab_eq e1)) fun o9 h9 hm9 hup => ?_
          have ref0 := L0.ref (self, .tab self P') (lookup_lt (Hp.tab_eq e1)) _ hm
          obtain ⟨n1, u1, l1⟩ := hup (a' := .tab self P') (o' := tabObj (ps ++ #[rawInt pos.line, rawInt pos.col, .ref c'])) ⟨hi, hP, _, rfl, by rw [Array.toList_append]; exact hT.snoc⟩ (fun d hr => by
            refine xe12 (hr) fun ps' e3 hd3 => ?_
            have e4 : ps ++ #[rawInt pos.line, rawInt pos.col, .ref c'] = ps' := by injection e3 with _ _ e _; injection e
            rw [← e4, Array.toList_append] at hd3
            rcases List.mem_append.mp hd3 with hd3 | hd3
            · exact .tail _ (ref0 d ⟨ps, rfl, hd3⟩)
            · rcases List.mem_cons.mp hd3 with e5 | hd3
              · contradiction
              · rcases List.mem_cons.mp hd3 with e5 | hd3
                · contradiction
                · rcases List.mem_cons.mp hd3 with e5 | hd3
                  · cases e5; exact .head _
                  · contradiction)
          rw [show H.set self (.tab self P') = H from by unfold Hp.set; rw [set_same (Hp.tab_eq e1)]] at l1
          rw [hP] at u1
          have hn1 : ∀ q ∈ n1, h'.get? q.1 = some q.2 ∧ q.1 ≠ a.L ∧ g.get? q.1 = none := fun q hq => by
            rcases upd_mem u1 q hq with rfl | ⟨hq, hne⟩
            · exact ⟨htb, hPL, hPg⟩
            · rcases hn0 q hq with rfl | hq
              · exact ⟨hoc, Nat.ne_of_gt hLc, gfresh _ hLc⟩
              · exact ⟨hx _ _ hne (r.nw q hq).1, (r.nw q hq).2⟩
          have R2 : Rel w a φ F H { s with heap := h', toks := tk } g m n1 :=
            ⟨⟨r.fr.ns.extBut hx hPL.symm, fun b o e => hx b o (fun q => by rw [q, hPg] at e; exact no_some9 e) (r.fr.keep b o e), r.fr.above⟩, hn1, ⟨_, l1⟩, r.loc, r.cl, r.turn, r.same⟩
          refine h _ _ (R2.hpushS (k := tk) l1 rfl ⟨"<lambda>", (a.env st).qual ++ "<lambda>", (mg "__name__").getD .none, c', ctv, clos, rfl, hcr⟩ (fun d hr => ?_)) .up _ vr_new
          refine xe12 (hr) fun f e6 e7 => ?_
          cases e6
          cases e7
          exact .head _
      · exact h.elim
    · exact h.elim
  · exact h.elim

/-- a call of a lambda -/
noncomputable def noCell (sc : Scope) : Bool := sc.names.all (fun x => x.2 != .cell) && !sc.isCoroutine && !sc.isGenerator && sc.kind == .function
noncomputable def lamEnd (r : Res AV) : Res AV := Res.rec (motive := fun _ => Res AV) (fun v H' => .ok v H') (fun e H' => leaveD e H') .stuck (fun p _ ih => .guard p ih) r
noncomputable def callLam (DB : Expr → Scope → EX) (v : AV) (H : Hp) : Res AV := match v with
  | .ref i => (match H.lam i with
    | some (body, sc, cl) => if noCell sc then lamEnd (DB body sc ⟨[], cl⟩ H) else .stuck
    | none => .stuck)
  | _ => .stuck
theorem callFunE {prog : Program} {A : Around} {R : Result → Shared → Prop} {s : Shared} {a : Addr} {args : Args} {o : Obj} {fd : FuncData} {body : Expr} {q : Str} (hroom : A.depth < recursionLimit)
    (ho : s.heap.get? a = some o)
    (hd' : o.data = .func fd) (hco : fd.scope.isCoroutine = false) (hgen : fd.scope.isGenerator = false) (hbody : fd.body = .expr body) (hcd : s.heap.CodeRec fd.code q)
    (h : wpAny (model prog w) A.in1 (bindArgs fd args) (fun binds s₁ =>
      wpAny (model prog w) A.in1 (newFunctionEnv fd.scope fd.globals fd.closure binds (q ++ ".<locals>.") (some a) fd.code none fd.builtins)
        (fun env s₂ => s₂.heap.NoLimit ∧ codeAny (model prog w) A (.expr body env) R s₂) (fun e s' => R (.error e) s') s₁) (fun e s' => R (.error e) s') s) :
    codeAny (model prog w) A (.call (.ref a) args) R s := by
  refine codeAny_of_tree ?_
  show wpAny _ A.in1 (callAny (.ref a) args) _ _ s
  unfold callAny
  refine wpAny_bind (wpAny_load ho ?_)
  obtain ⟨c, oc, vs, tq, hc, hoc, hdc, hq⟩ := hcd
  rw [hd']
  dsimp only
  unfold callFunction
  rw [hc, hco, hgen, hbody]
  rw [hc] at h
  dsimp only
  refine wpAny_bind (m := field (.ref c) 1) (wpAny_field hoc hdc hq (wpAny_bind (wpAny_pure ?_)))
  exact wpAny_bind (wpAny_mono h (fun binds s₁ h₁ => wpAny_bind (wpAny_mono h₁ (fun env s₂ h₂ => wpAny_bind (wpAny_enterFrame h₂.1 hroom
    (wpAny_pure (And.intro rfl h₂.2)))) fun _ _ h' => h')) fun _ _ h' => h')
theorem lam_call (GD : Gd w p loose mean mg mb G0) {nh : Bool} {DB : Expr → Scope → EX} (hB : ∀ (st : Sta) (body : Expr), st.nh = nh → st.cm = false → SE w G0 lv st body (DB body st.scope)) {ks : List (Addr × Obj)} {A : Around} {outer : List Env} {fs : List (Addr × Obj)} {s : Shared} {φ : Nat → Addr} {H : Hp} {news : List (Addr × Obj)} {R : Result → Shared → Prop} {i : Nat}
    (B : Begins w G0 (lv + 1) nh ks A outer fs s φ H news) (hp : PF w ks φ H.next news fs s (callLam DB (.ref i) H) R) : codeAny (model PR w) A (.call (.ref (φ i)) ⟨[], []⟩) R s := by
  unfold callLam at hp
  dsimp only at hp
  · split at hp
    · rename_i body sc cl e1
      split at hp
      · rename_i hc2
        simp only [noCell, Bool.and_eq_true, Bool.not_eq_true'] at hc2
        obtain ⟨⟨⟨hcell, hco⟩, hgen⟩, hk⟩ := hc2
        have hk : sc.kind = .function := beq_iff_eq.mp hk
        obtain ⟨ol, hml, nm, qual, pm, cc, ctv, clos, rfl, hcr⟩ := B.lr.get (Hp.lam_eq e1)
        refine xe1 (B.lr.ex) fun sat Ls => ?_
        obtain ⟨oc, hmc, vs, q, t, hdc, hvc⟩ := Ls.code (Hp.lam_eq e1) hml (c := cc) ⟨_, rfl, rfl⟩
        have hlim := GD.T.nolimit.keeps B.stays
        refine callFunE (q := q) (by have := B.depth; lia) (B.there _ hml).1 rfl hco hgen rfl ⟨_, oc, vs, t, rfl, (B.there _ hmc).1, hdc, hvc⟩ ?_
        rw [show bindArgs (kla_fn nm qual noArgs body sc clos pm (.ref cc) ctv) ⟨[], []⟩ = pure [] from rfl]
        refine wpAny_pure (wpAny_newFunctionEnv (by intro x hx; have := List.all_eq_true.mp hcell x hx; simpa using this) (fun x hx => by contradiction) (fun h₁ hns hsb => ⟨hlim.fresh _ hsb, ?_⟩) hk)
        have hk₁ : ∀ b o, s.heap.get? b = some o → h₁.get? b = some o := fun b o e => hsb.extBut b o (Nat.ne_of_lt (Heap.lt_size e)) (Heap.get?_push_of_some _ e)
        let st : Sta := ⟨q, sc, some (φ i), .ref cc, nh, false⟩
        let a : Act := { L := s.heap.objs.size, fra := s.heap.objs.size, cl := clos, A := A.deeper (envX q sc s.heap.objs.size (φ i) (.ref cc) clos), outer := outer, fs := fs, B := hideAll s.heap (news.map (·.1)), S := s, ks := ks }
        have ok : a.Ok st lv G0 := ⟨B.handled, fun _ => ⟨by show Option.map _ A.frames = _; rw [B.frames]; rfl, rfl⟩, by have := B.depth; show A.depth + 1 + 5 * lv < _; lia, by have := B.units; show A.units + 3 + 50 * lv < _; lia, B.outer, hk,
          fun q hq => ⟨hideAll_get _ (B.fs q hq).1 (B.fs q hq).2.2.2, (B.fs q hq).2.1, (B.fs q hq).2.2.1⟩, stays_hide B.stays fun q hq => (B.there q hq).2⟩
        have R0 : RelX w a φ ⟨[], cl⟩ H { s with heap := h₁, toks := s.toks + ([] : List (Str × Value)).length } :=
          ⟨hideAll s.heap (news.map (·.1)), _, news, ⟨⟨hns, fun b o e => hk₁ b o (of_hideAll _ e), Nat.le_of_eq (hideAll_size _ _)⟩,
            fun y hy => ⟨hk₁ _ _ (B.there y hy).1, Nat.ne_of_lt (Heap.lt_size (B.there y hy).1), hideAll_none _ (List.mem_map_of_mem hy)⟩, B.lr, (fun c x v hc e => by exact no_some9 e), hcr, .refl, ⟨rfl, rfl, rfl⟩⟩⟩
        have back : ∀ φ2 F2 H2 s2, RelX w a φ2 F2 H2 s2 → Ext φ H.next φ2 H2.next → ∃ news', Left w ks φ H.next news fs s φ2 H2 s2 news' := fun φ2 F2 H2 s2 R2 X2 => out_of (a := a) rfl rfl rfl (fun q hq => ⟨(B.fs q hq).1, (B.fs q hq).2.2.2⟩) R2 X2
        refine kla_codeExpr (hB st body rfl rfl a φ ⟨[], cl⟩ H _ _ _ ok R0 ?_)
        change PF w ks φ H.next news fs s (lamEnd (DB body st.scope ⟨[], cl⟩ H)) R at hp
        generalize DB body st.scope ⟨[], cl⟩ H = rr at hp
        induction rr with
        | guard p r ih => exact ⟨hp.1, ih hp.2⟩
        | ok v H' =>
          intro φ2 s2 R2 X2 u hu
          refine xe1 (back _ _ _ _ R2 X2) fun news' l => ?_
          exact hp φ2 s2 news' u l hu
        | exc x H' => exact fun φ2 s2 R2 X2 hlt => leave_ok (st := st) GD ok rfl back hp R2 X2 hlt
        | stuck => exact hp.elim
      · exact hp.elim
    · exact hp.elim
noncomputable def eCallV (DB : Expr → Scope → EX) (D : EX) : EX := fun F H => (D F H).bind fun v H1 => callLam DB v H1
theorem S_callV (GD : Gd w p loose mean mg mb G0) {fe : Expr} {pos : Pos} {D : EX} {DB : Expr → Scope → EX} (hB : ∀ (st' : Sta) (body : Expr), st'.nh = st.nh → st'.cm = false → SE w G0 lv st' body (DB body st'.scope)) (hcm : st.cm = false) (hn : SE w G0 (lv + 1) st fe D)
    (hc : ∀ env : Env, eval (.Call fe [] [] pos) env = (do callWith pos (← eval fe env) [] (backTo pos (starEach [] env)) (backToKw pos (keywordEach [] env)))) : SE w G0 (lv + 1) st (.Call fe [] [] pos) (eCallV DB D) := fun a φ F H s Qc Ec ok R h =>
  Call_ (hn a φ F H s _ Ec ok R (PO.bind2 (k := fun v H1 => callLam DB v H1) h fun v φ1 H1 s1 R1 X1 h' u hu => by
    by_cases hv : ∃ i body sc cl, v = .ref i ∧ H1.lam i = some (body, sc, cl)
    · obtain ⟨i, body, sc, cl, rfl, e1⟩ := hv
      obtain ⟨hi, rfl⟩ := hu
      have hF : FnAt (φ1 i) s1.heap := by
        refine xe3 (R1) fun g m news r => ?_
        obtain ⟨ol, hml, nm, qual, pm, cc, ctv, clos, rfl, hcr⟩ := r.lr.get (Hp.lam_eq e1)
        exact ⟨_, _, _, _, (r.nw _ hml).1⟩
      refine callWith_F0 hF ?_
      refine xe22 (call_out (lv := lv + 1) GD ok R1 hcm) fun fs news B back => ?_
      refine wpAny_call (lam_call GD hB B ?_)
      clear e1
      generalize callLam DB (.ref i) H1 = rr at h'
      induction rr with
      | guard p r ih => exact ⟨h'.1, ih h'.2⟩
      | stuck => exact h'
      | ok x H' => exact fun φ' s' news' u l hu => h' φ' s' (back _ _ _ _ l) l.ext u hu
      | exc x H' => exact fun φ' s' news' l hlt => h' φ' s' (back _ _ _ _ l) l.ext hlt
    · exfalso
      unfold callLam at h'
      split at h'
      · split at h'
        · rename_i e1; exact hv ⟨_, _, _, _, rfl, e1⟩
        · exact h'
      · exact h')) (hc _)
end
end Mine
end
-- M35
section
open PySem PySem.W PyProof.Rows PySem.Calls PySem.Spec
set_option Elab.async false
set_option linter.all false
namespace Mine
set_option maxRecDepth 100000
/-- the scope that a comprehension runs in -/
noncomputable def relab (sc outer : Scope) : Scope := relabel sc { scope := outer, locals := 0, globals := 0, cells := [] }
noncomputable def compLoop (x : Nat) (T : TX) (E : EX) (i j : Nat) : Nat → Frm → Hp → Res Unit
  | 0, _, _ => .stuck
  | k + 1, F, H => match nextD i H with
    | none => .stuck
    | some (none, H') => .ok () H'
    | some (some v, H') => match T { F with loc := putS x v F.loc } H' with
      | .ok true H2 => (match E { F with loc := putS x v F.loc } H2 with
        | .ok u H3 => (match appD (.ref j) u H3 with
          | .ok _ H4 => compLoop x T E i j k { F with loc := putS x v F.loc } H4
          | _ => .stuck)
        | _ => .stuck)
      | .ok false H2 => compLoop x T E i j k { F with loc := putS x v F.loc } H2
      | _ => .stuck
noncomputable def toAV (r : Res Unit) (v : AV) : Res AV := match r with
  | .ok _ H => .ok v H
  | _ => .stuck
noncomputable def eComp (x : Nat) (sc : Scope) (De : EX) (T : TX) (E : EX) : EX := fun F H => match closD F.cl sc.names [] with
  | some cl => (De F H).bind fun v H1 => (iterD v H1).bind fun it H2 => (match it with
    | .ref i => toAV (compLoop x T E i H2.next 100 ⟨[], cl⟩ (H2.push (.list []))) (.ref H2.next)
    | _ => .stuck)
  | none => .stuck
section
variable {w : World} {p : Program} {loose : List Str} {mean : ExcName → Option Value} {mg mb : Str → Option Value} {G0 : Heap} {lv : Nat} {st : Sta}
noncomputable abbrev stC' (st : Sta) (sc : Scope) : Sta := ⟨st.qual, relab sc st.scope, none, st.cdv, st.nh, true⟩
/-- the tests of a comprehension -/
noncomputable def SQ (w : World) (G0 : Heap) (lv : Nat) (st : Sta) (ifs : List Expr) (T : TX) : Prop :=
  ∀ (a : Act) (φ : Nat → Addr) (F : Frm) (H : Hp) (s : Shared) (Qc : Bool → Shared → Prop) (Ec : Value → Shared → Prop), a.Ok st lv G0 → RelX w a φ F H s →
    PO w a φ H.next F (T F H) (fun x _ _ s' => Qc x s') Ec → wpAny (model PR w) a.A (forIn ifs true fun c r => if r = true then do let ok ← isTrue c (a.env st) (eval c (a.env st)); pure (ForInStep.yield ok) else pure (ForInStep.yield r)) Qc Ec s
theorem Q_nil : SQ w G0 lv st [] (fun _ H => .ok true H) := fun a φ F H s Qc Ec ok R h => wpAny_tests_nil (PO.here h R)
theorem Q_one {c : Expr} {T : TX} (h : SB w G0 lv st c T) : SQ w G0 lv st [c] T := fun a φ F H s Qc Ec ok R hp => wpAny_tests_one (h a φ F H s Qc Ec ok R hp)
theorem relab_local {sc outer : Scope} {x : Str} (h : sc.names.lookup x = some .local) : (relab sc outer).names.lookup x = some .local := lookup_relabel_local h
theorem O_self {a : Act} {φ : Nat → Addr} {F : Frm} {H : Hp} {s : Shared} (R : RelX w a φ F H s) {i : Nat} {y} (h : (H.get i).bind AO.iter? = some y) {A : Around} {Q E : Value → Shared → Prop} (hq : Q (.ref (φ i)) s) : wpAny (model PR w) A (pyIter (.ref (φ i))) Q E s := by
  refine xe12 (Option.bind_eq_some_iff.mp h) fun o e1 e2 => ?_
  obtain ⟨y, l, k, b⟩ := y
  have e3 := AO.iter?_eq e2
  refine xe3 (R) fun g m news r => ?_
  refine xe12 (r.lr.get e1) fun ob hm ho => ?_
  have hget := (r.nw _ hm).1
  induction y with
  | some y =>
    obtain ⟨x, n⟩ := y
    dsimp only at e3
    subst e3
    obtain rfl := ho
    exact wpAny_pyIter_rangeiter hget hq
  | none =>
    induction b with
    | true =>
      dsimp only at e3
      rw [if_pos rfl] at e3
      subst e3
      refine xa3 (ho) fun hl hc hd => ?_
      exact wpAny_pyIter_listiter ⟨ob, hget, hc, hd⟩ hq
    | false =>
      dsimp only at e3
      rw [if_neg (by decide)] at e3
      subst e3
      refine xa3 (ho) fun hl hc hd => ?_
      exact wpAny_pyIter_tupleiter ⟨ob, hget, hc, hd⟩ hq
theorem nextD_iter {i : Nat} {H : Hp} {y} (h : nextD i H = some y) : ∃ z, (H.get i).bind AO.iter? = some z := by
  unfold nextD at h
  split at h
  · rename_i e; exact ⟨_, e⟩
  · rename_i e; exact ⟨_, e⟩
  · exact no_some9 h
theorem comp_step {elt : Expr} {c : Nat} {x : Str} {px : Pos} {ifs : List Expr} {T : TX} {E : EX} {a a' : Act} {st' : Sta} (hnh : st'.nh = true) (ok' : a'.Ok st' lv G0) (hc : KN c x) (hxl : st'.scope.names.lookup x = some .local)
    (h2 : SQ w G0 lv st' ifs T) (h3 : SE w G0 lv st' elt E) {i j k : Nat} {φ' : Nat → Addr} {F' F : Frm} {H' : Hp} {s' : Shared} (R' : RelX w a' φ' F' H' s') (hj : j < H'.next) {Pst : AV → (Nat → Addr) → Hp → Shared → Prop} {Ec Ep E1 E2 : Value → Shared → Prop} {Q' : Option Value → Shared → Prop} {Iv : Nat → Shared → Prop}
    (hh : PO w a φ' H'.next F (toAV (compLoop c T E i j (k + 1) F' H') (.ref j)) Pst Ec)
    (done : ∀ H3 s3, RelX w a' φ' F' H3 s3 → H3.next = H'.next → PO w a φ' H'.next F (.ok (.ref j) H3) Pst Ec → Q' none s3)
    (more : ∀ v s₁, wpAny (model PR w) a'.A (assign (.Name x px) (a'.env st') v) (fun _ s₂ => wpAny (model PR w) a'.A (forIn ifs true fun c r => if r = true then do let ok ← isTrue c (a'.env st') (eval c (a'.env st')); pure (ForInStep.yield ok) else pure (ForInStep.yield r))
      (fun ok s₃ => if ok = true then wpAny (model PR w) a'.A (eval elt (a'.env st')) (fun x s₄ => wpAny (model PR w) a'.A (call (.builtin "list.append") [.ref (φ' j), x]) (fun _ s₅ => ∃ m, m < k + 1 ∧ Iv m s₅) E2 s₄) E2 s₃ else ∃ m, m < k + 1 ∧ Iv m s₃) E2 s₂) E1 s₁ → Q' (some v) s₁)
    (next : ∀ φ5 F5 H5 s5, RelX w a' φ5 F5 H5 s5 → Ext φ' H'.next φ5 H5.next → PO w a φ5 H5.next F (toAV (compLoop c T E i j k F5 H5) (.ref j)) Pst Ec → Iv k s5) :
    wpAny (model PR w) a'.A (pyNext (.ref (φ' i))) Q' Ep s' := by
  unfold compLoop at hh
  refine O_next (a := a') (i := i) (st := st') hnh ok' R' ?_
  induction e1 : nextD i H' with
  | none => rw [e1] at hh; exact hh.elim
  | some y =>
    rw [e1] at hh
    obtain ⟨v, H3⟩ := y
    have hnx := nextD_next e1
    induction v with
    | none => exact fun s3' R3' => done H3 s3' R3' hnx hh
    | some v =>
      dsimp only at hh ⊢
      intro s3' u R3' hu
      refine more u s3' ?_
      refine wpAny_assign_Name (N_loc hc hxl a' φ' F' H3 s3' _ _ v u ok' R3' hu ?_)
      show ∀ φ'' s'', RelX w a' φ'' { F' with loc := putS c v F'.loc } H3 s'' → Ext φ' H3.next φ'' H3.next → _
      intro φ4 s4 R4 X4
      generalize { F' with loc := putS c v F'.loc } = F4 at hh R4 ⊢
      refine h2 a' φ4 _ H3 s4 _ _ ok' R4 ?_
      induction e2 : T F4 H3 with
      | stuck => rw [e2] at hh; exact hh.elim
      | guard _ _ => rw [e2] at hh; exact hh.elim
      | exc _ _ => rw [e2] at hh; exact hh.elim
      | ok b H4 =>
        rw [e2] at hh
        intro φ5 s5 R5 X5
        have X35 : Ext φ' H'.next φ5 H4.next := by rw [← hnx]; exact X4.trans X5
        induction b with
        | false =>
          rw [if_neg (by decide)]
          exact ⟨k, Nat.lt_succ_self _, next φ5 _ H4 s5 R5 X35 (PO.weak hh X35)⟩
        | true =>
          rw [if_pos rfl]
          dsimp only at hh
          refine h3 a' φ5 _ H4 s5 _ _ ok' R5 ?_
          induction e3 : E F4 H4 with
          | stuck => rw [e3] at hh; exact hh.elim
          | guard _ _ => rw [e3] at hh; exact hh.elim
          | exc _ _ => rw [e3] at hh; exact hh.elim
          | ok q H5 =>
            rw [e3] at hh
            dsimp only at hh
            intro φ6 s6 R6 X6 vq hvq
            have X36 := X35.trans X6
            rw [← X36.2 _ hj]
            refine O_app (st := st') (lv := lv) a' φ6 _ H5 s6 _ _ (.ref j) q (.ref (φ6 j)) vq ok' R6 ⟨Nat.lt_of_lt_of_le hj X36.1, rfl⟩ hvq ?_
            induction e4 : appD (.ref j) q H5 with
            | stuck => rw [e4] at hh; exact hh.elim
            | guard _ _ => rw [e4] at hh; exact hh.elim
            | exc _ _ => rw [e4] at hh; exact hh.elim
            | ok z H6 =>
              rw [e4] at hh
              exact fun φ7 s7 R7 X7 _ _ => ⟨k, Nat.lt_succ_self _, next φ7 _ H6 s7 R7 (X36.trans X7) (PO.weak hh (X36.trans X7))⟩
theorem S_comp (GD : Gd w p loose mean mg mb G0) {elt iter : Expr} {c : Nat} {x : Str} {px : Pos} {ifs : List Expr} {sc : Scope} {pos : Pos} {De : EX} {T : TX} {E : EX} (hnh : st.nh = true) (hc : KN c x) (hx : sc.names.lookup x = some .local) (hk : sc.kind = .function) (hcell : ∀ y ∈ sc.names, y.2 ≠ .cell) (hnames : ∀ y ∈ sc.names, y.2 = .local → sc.names.lookup y.1 = some .local)
    (h1 : SE w G0 lv st iter De) (h2 : SQ w G0 lv (stC' st sc) ifs T) (h3 : SE w G0 lv (stC' st sc) elt E) (hs : ∀ (env : Env) (v : Value), foldedSetIterable iter env v = pure v) :
    SE w G0 lv st (.ListComp elt [⟨.Name x px, iter, ifs, 0⟩] sc pos) (eComp c sc De T E) := fun a φ F H s Qc Ec ok R h => by
  obtain ⟨Pst, hP, h⟩ : ∃ Pst : AV → (Nat → Addr) → Hp → Shared → Prop, (∀ x φ' H' s', Pst x φ' H' s' → ∀ v, VR φ' H'.next x v → Qc v s') ∧ PO w a φ H.next F (eComp c sc De T E F H) Pst Ec := ⟨_, fun _ _ _ _ h => h, h⟩
  unfold eComp at h
  rw [eval_ListComp]
  split at h
  · rename_i cl e0
    obtain ⟨clos, hclos, hcr⟩ : ∃ clos, closureFor sc (a.env st) = pure clos ∧ All2 (CR φ H.next) cl clos := by
      refine xe3 (R) fun g m news r => ?_
      exact clos_ok (env := a.env st) r.cl e0
    refine wpAny_comprehension_free (g := ⟨.Name x px, iter, ifs, 0⟩) (gs := []) rfl (hs _) hclos hk hnames ?_
    refine h1 a φ F H s _ Ec ok R (PO.bind2 h fun v φ1 H1 s1 R1 X1 h' u hu => O_iter a φ1 F H1 s1 _ Ec v u ok R1 hu (PO.bind2 h' fun it φ2 H2 s2 R2 X2 h'' u2 hu2 => ?_))
    split at h''
    · rename_i i
      obtain ⟨hi, rfl⟩ := hu2
      refine O_list a φ2 F H2 s2 _ Ec [] [] ok R2 .nil ?_
      unfold mkList
      rw [if_pos (by decide)]
      intro φ3 s3 R3 X3 vv hv
      obtain ⟨hj, rfl⟩ := hv
      refine xe3 (id R3) fun g m news r => ?_
      refine wpAny_newFunctionEnv hcell (by intro x hx; contradiction) (fun h₁ hns hsb => ?_) hk
      have hk₁ : ∀ b o, s3.heap.get? b = some o → h₁.get? b = some o := fun b o e => hsb.extBut b o (Nat.ne_of_lt (Heap.lt_size e)) (Heap.get?_push_of_some _ e)
      have gin : ∀ b o, g.get? b = some o → (hideAll s3.heap (news.map (·.1))).get? b = some o := fun b o e => hideAll_get _ (r.fr.keep b o e) fun hm => by
        obtain ⟨q, hq, rfl⟩ := List.mem_map.mp hm
        rw [(r.nw q hq).2.2] at e; exact no_some9 e
      let a' : Act := { L := s3.heap.objs.size, fra := a.fra, cl := clos, A := a.A, outer := [], fs := [], B := hideAll s3.heap (news.map (·.1)), S := s3, ks := a.ks }
      have ok' : a'.Ok (stC' st sc) lv G0 := ⟨ok.handled, (fun q => by contradiction), ok.depth, ok.units, (fun _ q => by contradiction), hk, (fun _ q => by contradiction), fun b o e => gin b o (ok.base r.turn b o e)⟩
      have X13 : Ext φ H.next φ3 (H2.push (.list [])).next := (X1.trans X2).trans X3
      have R0' : RelX w a' φ3 ⟨[], cl⟩ (H2.push (.list [])) { s3 with heap := h₁, toks := s3.toks + ([] : List (Str × Value)).length } :=
        ⟨hideAll s3.heap (news.map (·.1)), _, news, ⟨⟨hns, fun b o e => hk₁ b o (of_hideAll _ e), Nat.le_of_eq (hideAll_size _ _)⟩,
          fun y hy => ⟨hk₁ _ _ (r.nw y hy).1, Nat.ne_of_lt (Heap.lt_size (r.nw y hy).1), hideAll_none _ (List.mem_map_of_mem hy)⟩, r.lr, (fun c x v hc e => by exact no_some9 e), hcr.mono fun _ _ h => h.ext X13, .refl, ⟨rfl, rfl, rfl⟩⟩⟩
      -- back to the frame at hand
      have back : ∀ φ4 F4 H4 s4, RelX w a' φ4 F4 H4 s4 → Ext φ3 (H2.push (.list [])).next φ4 H4.next → ∃ m', s4.heap.Ns s3.heap.objs.size m' ∧ ∀ h', Heap.SameBut s3.heap.objs.size s4.heap h' → RelX w a φ4 F H4 { s4 with heap := h' } := fun φ4 F4 H4 s4 R4 X4 => by
        refine xe3 (R4) fun g4 m4 news4 r4 => ?_
        have g4in : ∀ b o, (hideAll s3.heap (news.map (·.1))).get? b = some o → g4.get? b = some o := fun b o e => r4.turn.other b o e (by intro q; contradiction)
        refine ⟨m4, r4.fr.ns, fun h' hsb' => ?_⟩
        have keep : ∀ b o, b ≠ s3.heap.objs.size → s4.heap.get? b = some o → h'.get? b = some o := fun b o hb e => hsb'.extBut b o hb e
        have lt3 : ∀ b o, s3.heap.get? b = some o → b ≠ s3.heap.objs.size := fun b o e => Nat.ne_of_lt (Heap.lt_size e)
        have base : ∀ b o, g.get? b = some o → h'.get? b = some o := fun b o e => keep b o (lt3 b o (r.fr.keep b o e)) (r4.fr.keep b o (g4in b o (gin b o e)))
        refine xe13 (F_ns r.fr) fun oL hL hLd hLns => ?_
        have hLn : a.L ∉ news.map (·.1) := fun hm => by
          refine xe12 (List.mem_map.mp hm) fun q hq e => ?_
          exact (r.nw q hq).2.1 e
        have hL4 : g4.get? a.L = some oL := g4in _ _ (hideAll_get _ hL hLn)
        refine ⟨g, m, news4, ⟨⟨hLns h' oL.slots (keep _ _ (lt3 _ _ hL) (r4.fr.keep _ _ hL4)), base, r.fr.above⟩, fun q hq => ⟨keep _ _ (r4.nw q hq).2.1 (r4.nw q hq).1, fun e => ?_, ?_⟩, r4.lr, fun c x v hc e => ?_, ?_, r.turn, ⟨r4.same.1.trans r.same.1, r4.same.2.1.trans r.same.2.1, r4.same.2.2.trans r.same.2.2⟩⟩⟩
        · have := (r4.nw q hq).2.2
          rw [e, hL4] at this; exact no_some8 this
        · induction e : g.get? q.1 with
          | none => rfl
          | some o => have := g4in _ _ (gin _ _ e); rw [(r4.nw q hq).2.2] at this; exact no_some9 this
        · obtain ⟨u, h1, h2⟩ := r.loc c x v hc e; exact ⟨u, h1, h2.ext X4⟩
        · exact r.cl.mono fun _ _ h => h.ext X4
      have hxl := relab_local (outer := st.scope) hx
      have hj0 : H2.next < (H2.push (.list [])).next := Nat.lt_succ_self _
      have hi0 : i < (H2.push (.list [])).next := Nat.lt_succ_of_lt hi
      have φi : φ2 i = φ3 i := (X3.2 i hi).symm
      rw [φi]
      -- the loop
      have loop : codeAny (model PR w) a.A (.compLoop (.ListComp elt [⟨.Name x px, iter, ifs, 0⟩] sc pos) 0 (.ref (φ3 i)) (.ref (φ3 H2.next)) (a'.env (stC' st sc)))
          (compPost (model PR w) a.A Ec none Qc (.ref (φ3 H2.next)) s3.heap.objs.size) { s3 with heap := h₁, toks := s3.toks + ([] : List (Str × Value)).length } := by
        refine codeAny_compLoop_tests (fun k s' => ∃ φ' F' H', RelX w a' φ' F' H' s' ∧ Ext φ3 (H2.push (.list [])).next φ' H'.next ∧ PO w a φ' H'.next F (toAV (compLoop c T E i H2.next k F' H') (.ref H2.next)) Pst Ec) ?_ 100 ⟨φ3, ⟨[], cl⟩, _, R0', .refl, PO.weak h'' X3⟩ (fun v => rfl)
        rintro k s' ⟨φ', F', H', R', X', hh⟩
        induction k with
        | zero => exact hh.elim
        | succ k =>
          rw [← X'.2 i hi0, ← X'.2 _ hj0]
          exact comp_step (a' := a') (st' := stC' st sc) (Iv := fun k s' => ∃ φ' F' H', RelX w a' φ' F' H' s' ∧ Ext φ3 (H2.push (.list [])).next φ' H'.next ∧ PO w a φ' H'.next F (toAV (compLoop c T E i H2.next k F' H') (.ref H2.next)) Pst Ec) hnh ok' hc hxl h2 h3 R' (Nat.lt_of_lt_of_le hj0 X'.1) hh
            (fun H3 s3 R3 hnx hh => by
              obtain ⟨m', hns', hb⟩ := back φ' F' H3 s3 R3 (by rw [hnx]; exact X')
              exact ⟨m', hns', fun h' hsb' => hP _ _ _ _ (hh φ' _ (hb h' hsb') (by rw [hnx]; exact .refl)) _ ⟨by rw [hnx]; exact Nat.lt_of_lt_of_le hj0 X'.1, rfl⟩⟩)
            (fun _ _ h => h) (fun φ5 F5 H5 s5 R5 X5 hh => ⟨φ5, F5, H5, R5, X'.trans X5, hh⟩)
      refine codeAny_compStart_list loop ?_
      have : ∃ y, nextD i (H2.push (.list [])) = some y := by
        induction e1 : nextD i (H2.push (.list [])) with
        | some y => exact ⟨y, rfl⟩
        | none =>
          exfalso
          unfold compLoop at h''
          rw [e1] at h''
          exact h''
      obtain ⟨y, hy⟩ := this
      obtain ⟨z, hz⟩ := nextD_iter hy
      exact O_self (a := a') R0' hz loop
    · exact h''.elim
  · exact h.elim
end
end Mine
end
-- M36
section
open PySem PySem.W PyProof.Rows PySem.Calls PySem.Spec
set_option Elab.async false
set_option linter.all false
namespace Mine
set_option maxRecDepth 100000
noncomputable abbrev PX := Frm → Hp → Res (List (Nat × AV))
noncomputable def dN : PX := fun _ H => .ok [] H
noncomputable def dC (c : Nat) (D1 : EX) (D2 : PX) : PX := fun F H => (D1 F H).bind fun x H1 => (D2 F H1).bind fun l H2 => .ok ((c, x) :: l) H2
noncomputable def mkPd (l es : List (Nat × AV)) : List (Nat × AV) := l.foldl (fun es p => putS p.1 p.2 es) es
noncomputable def eDict (DP : PX) : EX := fun F H => (DP F (H.push (.pdict []))).bind fun l H1 => match H1.pd H.next with
  | some [] => if l.length ≤ 15 then .ok (.ref H.next) (H1.set H.next (.pdict (mkPd l []))) else .stuck
  | _ => .stuck
section
variable {w : World} {p : Program} {loose : List Str} {mean : ExcName → Option Value} {mg mb : Str → Option Value} {G0 : Heap} {lv : Nat} {st : Sta}
noncomputable def DR (φ : Nat → Addr) (n : Nat) (p : Nat × AV) (q : Value × Value) : Prop := ∃ x t, KN p.1 x ∧ q.1 = .str x t ∧ VR φ n p.2 q.2
noncomputable def SD (w : World) (G0 : Heap) (lv : Nat) (st : Sta) (keys : List (Option Expr)) (vals : List Expr) (D : PX) : Prop :=
  ∀ (a : Act) (φ : Nat → Addr) (F : Frm) (H : Hp) (s : Shared) (Qc : List (Value × Value) → Shared → Prop) (Ec : Value → Shared → Prop) (pos : Pos), a.Ok st lv G0 → RelX w a φ F H s →
    PO w a φ H.next F (D F H) (fun l φ' H' s' => ∀ vs, All2 (DR φ' H'.next) l vs → Qc vs s') Ec → wpAny (model PR w) a.A (evalPairs (pairTrees keys vals (a.env st) pos)) Qc Ec s
theorem D_nil {vals : List Expr} : SD w G0 lv st [] vals dN := fun a φ F H s Qc Ec pos ok R h => wpAny_pure (PO.here h R [] .nil)
theorem D_cons {c : Nat} {x : Str} {k : Nat} {kp : Pos} {e : Expr} {keys : List (Option Expr)} {vals : List Expr} {D1 : EX} {D2 : PX} (hc : KN c x) (h1 : SE w G0 lv st e D1) (h2 : SD w G0 lv st keys vals D2) : SD w G0 lv st (some (.Constant (.str x) k kp) :: keys) (e :: vals) (dC c D1 D2) := fun a φ F H s Qc Ec pos ok R h => by
  refine wpAny_bind (wpAny_Constant_str ?_)
  refine wpAny_bind (wpAny_holding (wpAny_bind (h1 a φ F H _ _ Ec ok (R.toks (k := s.toks + 1)) (PO.bind2 h fun y φ1 H1 s1 R1 X1 h' v hv => wpAny_bind (wpAny_standAt (wpAny_pure ?_))))))
  refine wpAny_bind (wpAny_holding (h2 a φ1 F H1 s1 _ Ec pos ok R1 (PO.bind2 h' fun l φ2 H2 s2 R2 X2 h'' vs hvs => wpAny_pure (PO.here h'' R2 _ (.cons ⟨x, _, hc, rfl, hv.ext X2⟩ hvs)))))
theorem carries_of {φ : Nat → Addr} {n : Nat} {l : List (Nat × AV)} {vs : List (Value × Value)} (h : All2 (DR φ n) l vs) : ∃ kvs : List (Str × Value), Carries (strKind PR w) vs kvs ∧ All2 (BR φ n) l kvs := by
  induction h with
  | nil => exact ⟨[], trivial, .nil⟩
  | @cons p q l r hd _ ih =>
    refine hide fun q9 b9 => ?_
    refine xe12 (ih) fun kvs h1 h2 => ?_
    obtain ⟨k, v⟩ := q
    refine xe23 (hd) fun x t hx e hv => ?_
    refine b9 ?_
    dsimp only at e hv
    subst e
    exact ⟨(x, v) :: kvs, ⟨strKind_is _ _ _ _, rfl, h1⟩, .cons ⟨hx, hv⟩ h2⟩
theorem stored_nodup {kvs : List (Str × Value)} {x : Str} {u : Value} (h : (kvs.map (·.1)).Nodup) : ((stored kvs x u).map (·.1)).Nodup := by
  unfold stored
  split
  · rw [List.map_map, show ((fun q : Str × Value => q.1) ∘ fun kv : Str × Value => if kv.1 = x then (kv.1, u) else kv) = fun q => q.1 from funext fun q => by simp only [Function.comp]; split <;> rfl]
    exact h
  · rename_i hn
    rw [List.map_append, List.nodup_append]
    refine ⟨h, by simp, fun a ha b hb e => ?_⟩
    simp only [List.map_cons, List.map_nil, List.mem_singleton] at hb
    subst hb e
    refine hide fun q9 b9 => ?_
    refine xe12 (List.mem_map.mp ha) fun q hq e => ?_
    refine b9 ?_
    exact hn (List.any_eq_true.mpr ⟨q, hq, by simp [e]⟩)
theorem merged_is {φ : Nat → Addr} {n : Nat} {l : List (Nat × AV)} {kvs : List (Str × Value)} (h : All2 (BR φ n) l kvs) : ∀ {es : List (Nat × AV)} {acc : List (Str × Value)}, All2 (BR φ n) es acc → (acc.map (·.1)).Nodup → All2 (BR φ n) (mkPd l es) (merged acc kvs) := by
  induction h with
  | nil => intro es acc h _; exact h
  | @cons p q l r hd _ ih =>
    intro es acc h hn
    exact ih (stored_is hd.1 hd.2 h hn) (stored_nodup hn)
theorem S_dict (GD : Gd w p loose mean mg mb G0) {k0 : Option Expr} {keys : List (Option Expr)} {vals : List Expr} {pos : Pos} {DP : PX} (h1 : SD w G0 lv st (k0 :: keys) vals DP) (hall : (k0 :: keys).all (·.isSome) = true) (hl : (k0 :: keys).length = vals.length) (hlen : (k0 :: keys).length ≤ 15) :
    SE w G0 lv st (.Dict (k0 :: keys) vals pos) (eDict DP) := fun a φ F H s Qc Ec ok R h => by
  have R0 := R
  refine hide fun q9 b9 => ?_
  refine xe3 (R) fun g m news r => ?_
  refine b9 ?_
  have hn := pairTrees_length (k0 :: keys) vals (a.env st) pos hall hl
  refine wpAny_Dict_pairs (knd := strKind PR w) (pairs := pairTrees (k0 :: keys) vals (a.env st) pos) (zip_pairTrees (k0 :: keys) vals (a.env st) pos hall hl) (by intro he; rw [he] at hn; contradiction) (by rw [hn]; exact hlen) ?_
  have R1 := r.hpush (k := s.toks) (ob := { cls := .type "dict", data := .dict #[] }) (ao := .pdict []) rfl ⟨[], ⟨#[], 0, ⟨rfl, rfl, rfl⟩, rfl, fun _ he => by simp at he, Pairs.nil, List.nodup_nil⟩, .nil⟩
  unfold eDict at h
  refine h1 a _ F _ _ _ Ec pos ok R1 (PO.bind2 (PO.weak (φ' := upφ φ H.next s.heap.objs.size) (n' := H.next + 1) h .up) fun l φ2 H2 s2 R2 X2 h' vs hvs => ?_)
  split at h'
  · rename_i e1
    split at h'
    · rename_i hl15
      refine hide fun q9 b9 => ?_
      refine xe12 (carries_of (w := w) hvs) fun kvs hc hk => ?_
      refine xe3 (id R2) fun g2 m2 n2 r2 => ?_
      obtain ⟨ob, hm, kv0, hd0, hkv0⟩ := r2.lr.get (Hp.pd_eq e1)
      refine b9 ?_
      cases hkv0
      have φd : φ2 H.next = s.heap.objs.size := (X2.2 H.next (Nat.lt_succ_self _)).trans (if_pos rfl)
      rw [φd] at hm
      refine ⟨kvs, hc, Heap.dictOf_iff.mpr ⟨ob, (r2.nw _ hm).1, hd0⟩, fun hh hD hsb => ?_⟩
      refine hide fun q9 b9 => ?_
      refine xe12 (Heap.dictOf_iff.mp hD) fun o' ho' hd' => ?_
      refine b9 ?_
      have := r2.hset (k := s2.toks + vs.length) (Hp.pd_eq e1) (ao' := .pdict (mkPd l [])) (h' := hh) (o' := o') (fun b o hb e => hsb.extBut b o (by rw [← φd]; exact hb) e) (by rw [φd]; exact ho') ⟨_, hd', merged_is hk .nil .nil⟩
      refine h' φ2 _ this .refl _ ?_
      exact ⟨Nat.lt_of_lt_of_le (Nat.lt_succ_self _) X2.1, by rw [φd]⟩
    · exact h'.elim
  · exact h'.elim

/-- the law's own list -/
structure ScrOk (G0 : Heap) (scr : Addr × List Int) : Prop where
  at_ : ∃ vs, G0.IsList scr.1 vs.toArray ∧ IntsAre vs scr.2
  len : scr.2.length ≤ 1000
noncomputable def slD (scr : Addr × List Int) (k : Int) (v : AV) (H : Hp) : Res AV := match v with
  | .glob a => if a = scr.1 ∧ 0 ≤ k then .ok (.ref H.next) (H.push (.list ((scr.2.take k.toNat).map .int))) else .stuck
  | _ => .stuck
noncomputable def lenG (scr : Addr × List Int) (xs : List AV) (H : Hp) : Res AV := match xs with
  | [.glob a] => if a = scr.1 then .ok (.int scr.2.length) H else .stuck
  | _ => .stuck
theorem scr_here {scr : Addr × List Int} (hs : ScrOk G0 scr) {a : Act} {φ : Nat → Addr} {F : Frm} {H : Hp} {s : Shared} {g : Heap} {m : Str → Option Value} {news : List (Addr × Obj)} (ok : a.Ok st lv G0) (r : Rel w a φ F H s g m news) : ∃ vs, s.heap.IsList scr.1 vs.toArray ∧ IntsAre vs scr.2 := by
  refine hide fun q9 b9 => ?_
  obtain ⟨vs, ⟨o, e, h⟩, hi⟩ := hs.at_
  refine b9 ?_
  exact ⟨vs, ⟨o, r.fr.keep _ _ (ok.base r.turn _ _ e), h⟩, hi⟩
theorem S_slice {scr : Addr × List Int} (hs : ScrOk G0 scr) {x : Str} {xp : Pos} {k : Int} {kk : Nat} {kp sp pos : Pos} {D : EX} (h1 : SE w G0 lv st (.Name x xp) D) : SE w G0 lv st (.Subscript (.Name x xp) (.Slice none (some (.Constant (.int k) kk kp)) none sp) pos) (fun F H => (D F H).bind (slD scr k)) := fun a φ F H s Qc Ec ok R h =>
  Subscript_ (h1 a φ F H s _ Ec ok R (PO.bind2 h fun v φ1 H1 s1 R1 X1 h' u hu => by
    unfold slD at h'
    split at h'
    · split at h'
      · rename_i hk
        obtain ⟨rfl, hk0⟩ := hk
        subst hu
        refine hide fun q9 b9 => ?_
        refine xe3 (id R1) fun g m news r => ?_
        refine xe12 (scr_here hs ok r) fun vs hL hI => ?_
        refine b9 ?_
        refine wpAny_Slice (wpAny_pure (wpAny_Constant_int (k := kk) (pos := kp) (wpAny_pure ?_)))
        refine kmk_slice_ints (s := { s1 with toks := s1.toks + 1 }) r.fr r.nw hL .none (.int k _) hI (kmk_upto hI hk0) rfl (fun D ws hh F' N' l1 hi' hc hle => ?_) (by with_unfolding_all rfl) (fun r => by with_unfolding_all rfl) (by rw [List.size_toArray, hI.length]; exact size_ok hs.len)
        exact h' _ _ (r.push (k := s1.toks + 1) F' N' (lt_ne l1) ⟨ws, 0, rfl, all2_ints hi'⟩) .up _ vr_new
      · exact h'.elim
    · exact h'.elim))
theorem O_lenG {scr : Addr × List Int} (hs : ScrOk G0 scr) : SOn w G0 lv st (fun vs => call (.builtin "len") vs) (lenG scr) := fun a φ F H s Qc Ec xs vs ok R hx h => by
  unfold lenG at h
  split at h
  · split at h
    · rename_i e
      subst e
      cases hx with
      | cons hx0 t =>
        cases t
        subst hx0
        refine hide fun q9 b9 => ?_
        refine xe3 (id R) fun g m news r => ?_
        refine xe12 (scr_here hs ok r) fun vs hL hI => ?_
        refine b9 ?_
        have := hs.len
        refine Calls.call_len_list hL (by rw [List.size_toArray, hI.length]; lia) (PO.here h (R.toks (k := s.toks + 1 + 1)) _ ⟨s.toks + 1, ?_⟩)
        rw [List.size_toArray, hI.length]
    · exact h.elim
  · exact h.elim
/-- two readings, the second where the first is stuck -/
noncomputable def altR {α : Type} (r q : Res α) : Res α := match r with
  | .stuck => q
  | r => r
theorem PO.alt {a : Act} {φ : Nat → Addr} {n : Nat} {F : Frm} {α : Type} {r q : Res α} {K : α → (Nat → Addr) → Hp → Shared → Prop} {E : Value → Shared → Prop} (h : PO w a φ n F (altR r q) K E) : PO w a φ n F r K E ∨ PO w a φ n F q K E := by
  induction r with
  | stuck => exact .inr h
  | ok x H => exact .inl h
  | exc e H => exact .inl h
  | guard p r => exact .inl h
noncomputable def alt2 (f g : AV → AV → Hp → Res AV) (x y : AV) (H : Hp) : Res AV := altR (f x y H) (g x y H)
noncomputable def altN (f g : List AV → Hp → Res AV) (xs : List AV) (H : Hp) : Res AV := altR (f xs H) (g xs H)
noncomputable def alt1 (f g : AV → Hp → Res AV) (x : AV) (H : Hp) : Res AV := altR (f x H) (g x H)
noncomputable def altU (f g : AV → AV → Hp → Res Unit) (x y : AV) (H : Hp) : Res Unit := altR (f x y H) (g x y H)
theorem O_alt2 {t : Value → Value → Sem Value} {f g : AV → AV → Hp → Res AV} (h1 : SO2 w G0 lv st t f) (h2 : SO2 w G0 lv st t g) : SO2 w G0 lv st t (alt2 f g) := fun a φ F H s Qc Ec x y v u ok R hx hy h => (PO.alt h).elim (h1 a φ F H s Qc Ec x y v u ok R hx hy) (h2 a φ F H s Qc Ec x y v u ok R hx hy)
theorem O_altN {t : List Value → Sem Value} {f g : List AV → Hp → Res AV} (h1 : SOn w G0 lv st t f) (h2 : SOn w G0 lv st t g) : SOn w G0 lv st t (altN f g) := fun a φ F H s Qc Ec x v ok R hx h => (PO.alt h).elim (h1 a φ F H s Qc Ec x v ok R hx) (h2 a φ F H s Qc Ec x v ok R hx)
theorem O_alt1 {t : Value → Sem Value} {f g : AV → Hp → Res AV} (h1 : SO1 w G0 lv st t f) (h2 : SO1 w G0 lv st t g) : SO1 w G0 lv st t (alt1 f g) := fun a φ F H s Qc Ec x v ok R hx h => (PO.alt h).elim (h1 a φ F H s Qc Ec x v ok R hx) (h2 a φ F H s Qc Ec x v ok R hx)
theorem O_altU {t : Value → Value → Sem Unit} {f g : AV → AV → Hp → Res Unit} (h1 : SU2 w G0 lv st t f) (h2 : SU2 w G0 lv st t g) : SU2 w G0 lv st t (altU f g) := fun a φ F H s Qc Ec x y v u ok R hx hy h => (PO.alt h).elim (h1 a φ F H s Qc Ec x y v u ok R hx hy) (h2 a φ F H s Qc Ec x y v u ok R hx hy)
end
end Mine
end
-- M37
section
open PySem PySem.AutoSeq1
open PySem PySem.W PyProof.Rows PySem.Calls PySem.Spec
set_option Elab.async false
set_option linter.all false
namespace Mine
set_option maxRecDepth 100000
section
variable {w : World}
/-- two pairs of ints by < -/
theorem tuple_lt2 (l b : Addr) (a1 b1 a2 b2 : Int) (t1 u1 t2 u2 : Tok) (n n2 : Nat) (dd dd2 : Option Addr) (sl sl2 : Array (Option Value)) :
    Meets (Builtin.«tuple.__lt__» ⟨[.ref l, .ref b], []⟩)
      (fun A R s => s.heap.get? l = some { cls := .type "tuple", dict := dd, data := .seq #[.int a1 t1, .int b1 u1] n, slots := sl } ∧ s.heap.get? b = some { cls := .type "tuple", dict := dd2, data := .seq #[.int a2 t2, .int b2 u2] n2, slots := sl2 } ∧
        R (.ok (.ret (.bool (if a1 = a2 then decide (b1 < b2) else decide (a1 < a2))))) s) :=
  .of_wp fun prog w A R s h => by
    obtain ⟨hp, g, d, tk, os⟩ := s; obtain ⟨hl, hb, h⟩ := h
    have f2 := AutoSeq1.sub_tuple_tuple
    have e1 := fun Q E => SeqAt.EqAt.int_int (A := A.in1) (s := ⟨hp, g, d, tk, os⟩) a1 t1 a2 t2 prog w E Q
    have e2 := fun Q E => SeqAt.EqAt.int_int (A := A.in1) (s := ⟨hp, g, d, tk, os⟩) b1 u1 b2 u2 prog w E Q
    wp_walk using wpAny_loadPart' hl, wpAny_loadPart' hb
    show wpAny _ _ (eqBool (.int a1 t1) (.int a2 t2)) _ _ _
    refine e1 _ _ ?_
    by_cases q1 : a1 = a2
    · rw [if_pos q1] at h
      rw [show (a1 == a2) = true from by simpa using q1]
      wp_walk
      show wpAny _ _ (eqBool (.int b1 u1) (.int b2 u2)) _ _ _
      refine e2 _ _ ?_
      by_cases q2 : b1 = b2
      · rw [show (b1 == b2) = true from by simpa using q2]
        wp_walk
        refine ⟨_, rfl, ?_⟩
        rw [show decide (b1 < b2) = false from by simp [q2]] at h
        exact h
      · rw [show (b1 == b2) = false from by simpa using q2]
        rw [if_pos (by decide)]
        refine wpAny_bind (wpAny_rule ?_)
        refine wpAny_bind (lt_int ?_)
        wp_walk
        exact ⟨_, rfl, h⟩
    · rw [if_neg q1] at h
      rw [show (a1 == a2) = false from by simpa using q1]
      rw [if_pos (by decide)]
      refine wpAny_bind (wpAny_rule ?_)
      refine wpAny_bind (lt_int ?_)
      wp_walk
      exact ⟨_, rfl, h⟩
/-- the min loop over a list whose items are compared in any heap that keeps the base -/
theorem min_loopH {A : Around} {R : Result → Shared → Prop} (hh : A.handled = none) {base : Heap} {vs : List Value} {l I S : Addr} (hlI : l ≠ I) (hSI : S ≠ I) (bI : base.get? I = none) (bS : base.get? S = none) (hl : base.IsList l vs.toArray) (bt : Nat → Nat → Bool)
    (hcmp : ∀ (i j : Nat) (vi vj : Value) (s : Shared) (Q E : Value → Shared → Prop), vs[i]? = some vi → vs[j]? = some vj → (∀ b o, base.get? b = some o → s.heap.get? b = some o) → Q (.bool (bt i j)) s → wpAny (model PR w) A.in1 (richCompare .Lt vi vj) Q E s) :
    ∀ (k j : Nat) (s : Shared) (vb : Value) (c : Nat), vs.length - (j + 1) = k → j + 1 ≤ vs.length → (∀ b o, base.get? b = some o → s.heap.get? b = some o) → s.heap.IsListIter I l (j + 1) → vs[argBest bt j]? = some vb →
    s.heap.get? S = some { cls := .type "list", dict := none, data := .seq #[vb, vb] c, slots := #[] } →
    (∀ v h' tk, vs[argBest bt (vs.length - 1)]? = some v → (∀ b o, base.get? b = some o → h'.get? b = some o) → R (.ok (.ret v)) { s with heap := h', toks := tk }) →
    codeAny (model PR w) A (.builtin "min.loop" ⟨[.ref I, .none, .ref S], []⟩) R s := by
  have hname : (toString "min" ++ toString ".loop" : String) = "min.loop" := by decide
  have W := Walks.list (prog := PR) (w := w) (A := A.in1) hh I l hlI vs.toArray
  have hsz : vs.toArray.size = vs.length := List.size_toArray ..
  have lst : ∀ h : Heap, (∀ b o, base.get? b = some o → h.get? b = some o) → h.IsList l vs.toArray := fun h hk => by
    obtain ⟨o, e, r⟩ := hl; exact ⟨o, hk _ _ e, r⟩
  have neI : ∀ b o, base.get? b = some o → b ≠ I := fun b o e q => by rw [q, bI] at e; exact no_some9 e
  have neS : ∀ b o, base.get? b = some o → b ≠ S := fun b o e q => by rw [q, bS] at e; exact no_some9 e
  intro k
  induction k with
  | zero =>
    intro j s vb c hk hj hb hit hvb hS hR
    have hin : j + 1 = vs.length := by omega
    refine codeAny_builtin PySem.F.entry_min_loop ?_
    rw [Around.under_plainId PySem.F.plain_min_loop _]
    show wpAny _ A.in1 (seqItems? (.ref S) >>= _) _ _ s
    refine wpAny_bind (wpAny_seqItems hS rfl ?_)
    show wpAny _ A.in1 (tryCatch (pyNext (.ref I)) _ >>= _) _ _ s
    refine wpAny_bind (wpAny_tryCatch (W.done s _ _ ⟨by rw [hsz, ← hin]; exact hit, lst _ hb⟩ fun h' tk hk' => ?_))
    have hS' := hk' S _ (by simpa using hSI) hS
    show wpAny _ A.in1 (updateSeq S (fun _ => #[]) >>= _) _ _ _
    refine wpAny_bind ?_
    refine wpAny_updateSeq hS' rfl (wpAny_bind (wpAny_letGo (wpAny_pure ?_)))
    refine hR vb _ tk (by rw [← hin]; exact hvb) fun b o e => (Heap.get?_update_other _ _ (Ne.symm (neS b o e))).trans (hk' b o (by simpa using neI b o e) (hb b o e))
  | succ k ih =>
    intro j s vb c hk hj hb hit hvb hS hR
    have hlt : j + 1 < vs.length := by omega
    refine codeAny_builtin PySem.F.entry_min_loop ?_
    rw [Around.under_plainId PySem.F.plain_min_loop _]
    show wpAny _ A.in1 (seqItems? (.ref S) >>= _) _ _ s
    refine wpAny_bind (wpAny_seqItems hS rfl ?_)
    show wpAny _ A.in1 (tryCatch (pyNext (.ref I)) _ >>= _) _ _ s
    refine wpAny_bind (wpAny_tryCatch (W.item (j + 1) s _ _ (by rw [hsz]; exact hlt) ⟨hit, lst _ hb⟩ fun v h' tk hP hst' hk' => ?_))
    have hv : vs[j + 1]? = some v := by simpa using hP
    have hS' := hk' S _ (by simpa using hSI) hS
    have hb' : ∀ b o, base.get? b = some o → h'.get? b = some o := fun b o e => hk' b o (by simpa using neI b o e) (hb b o e)
    show wpAny _ A.in1 (tryCatch (holding [v, v] (richCompare .Lt v vb >>= _)) _ >>= _) _ _ _
    refine wpAny_bind (wpAny_tryCatch (wpAny_holding (wpAny_bind (hcmp (j + 1) (argBest bt j) v vb _ _ _ hv hvb hb' ?_))))
    refine wpAny_bind (wpAny_holding (wpAny_truthy_bool ?_))
    refine wpAny_bind (wpAny_letGo (wpAny_pure ?_))
    induction hbt : bt (j + 1) (argBest bt j) with
    | true =>
      simp only [if_true]
      refine wpAny_bind ?_
      refine wpAny_updateSeq hS' rfl (wpAny_bind (wpAny_letGo ?_))
      rw [hname]
      obtain ⟨oI, hoI, hoc, hod⟩ := hst'.1
      refine wpAny_pure ⟨plainId_quiet PySem.F.plain_min_loop _, ih (j + 1) _ v _ (by omega) hlt (fun b o e => (Heap.get?_update_other _ _ (Ne.symm (neS b o e))).trans (hb' b o e)) ⟨oI, (Heap.get?_update_other _ _ hSI).trans hoI, hoc, hod⟩ (by simp only [argBest, hbt, if_true]; exact hv) (Heap.get?_update_self _ hS' rfl) fun v' h'' tk'' hP' hk'' => ?_⟩
      exact hR v' h'' tk'' hP' hk''
    | false =>
      simp only [Bool.false_eq_true, if_false]
      refine wpAny_bind (wpAny_letGo ?_)
      rw [hname]
      exact wpAny_pure ⟨plainId_quiet PySem.F.plain_min_loop _, ih (j + 1) _ vb c (by omega) hlt hb' hst'.1 (by simp only [argBest, hbt, Bool.false_eq_true, if_false]; exact hvb) hS' fun v' h'' tk'' hP' hk'' => hR v' h'' tk'' hP' hk''⟩
theorem call_minH {A : Around} {s : Shared} {Q E : Value → Shared → Prop} (hh : A.handled = none) {vs : List Value} {l : Addr} (hl : s.heap.IsList l vs.toArray) (hne : 0 < vs.length) (bt : Nat → Nat → Bool)
    (hcmp : ∀ (i j : Nat) (vi vj : Value) (s' : Shared) (Q E : Value → Shared → Prop), vs[i]? = some vi → vs[j]? = some vj → (∀ b o, s.heap.get? b = some o → s'.heap.get? b = some o) → Q (.bool (bt i j)) s' → wpAny (model PR w) A.in1 (richCompare .Lt vi vj) Q E s')
    (hR : ∀ v h' tk, vs[argBest bt (vs.length - 1)]? = some v → (∀ b o, s.heap.get? b = some o → h'.get? b = some o) → Q v { s with heap := h', toks := tk }) :
    wpAny (model PR w) A (call (.builtin "min") [.ref l]) Q E s := by
  have hname : (toString "min" ++ toString ".loop" : String) = "min.loop" := by decide
  have hlt : l < s.heap.objs.size := by obtain ⟨o, e, _⟩ := hl; exact Heap.lt_size e
  have snone : ∀ b, s.heap.objs.size ≤ b → s.heap.get? b = none := fun b hb => Heap.get?_none_of_le hb
  refine call_function_tree PySem.F.kind_min PySem.F.plain_min PySem.F.entry_min (PySem.F.args_min1 _) ?_
  show wpAny _ A.in1 (Builtin.Builtins.bindParams "min" ["key", "default"] 0 ⟨[], []⟩ >>= _) _ _ s
  refine wpAny_bind (wpAny_of_eq (show Builtin.Builtins.bindParams "min" ["key", "default"] 0 ⟨[], []⟩ = pure [none, none] from rfl) ?_)
  refine wpAny_bind (wpAny_pure ?_)
  refine wpAny_bind (wpAny_pyIter_list hl ?_)
  refine wpAny_bind (wpAny_newObj_type ?_)
  rw [hname]
  refine wpAny_pure ⟨plainId_quiet PySem.F.plain_min_loop _, ?_⟩
  have hlI : l ≠ s.heap.objs.size := Nat.ne_of_lt hlt
  have W := Walks.list (prog := PR) (w := w) (A := A.in1) hh s.heap.objs.size l hlI vs.toArray
  obtain ⟨h1, e1⟩ : ∃ h, h = s.heap.push { cls := .type "list_iterator", data := .fields #[.ref l, .int 0 0] } := ⟨_, rfl⟩
  have sz1 : h1.objs.size = s.heap.objs.size + 1 := by rw [e1, Heap.size_push]
  have it1 : h1.get? s.heap.objs.size = some { cls := .type "list_iterator", data := .fields #[.ref l, .int 0 0] } := by rw [e1]; exact Heap.get?_push_size _ rfl
  have k1 : ∀ b o, s.heap.get? b = some o → h1.get? b = some o := fun b o e => by rw [e1]; exact Heap.get?_push_of_some _ e
  rw [← e1]
  obtain ⟨h2, e2⟩ : ∃ h, h = h1.push { cls := .type "list", data := .seq #[] } := ⟨_, rfl⟩
  have hS : h2.get? h1.objs.size = some { cls := .type "list", dict := none, data := .seq #[], slots := #[] } := by rw [e2]; exact Heap.get?_push_size _ rfl
  have k2 : ∀ b o, h1.get? b = some o → h2.get? b = some o := fun b o e => by rw [e2]; exact Heap.get?_push_of_some _ e
  show codeAny (model PR w) A (.builtin "min.loop" ⟨[.ref s.heap.objs.size, .none, .ref h1.objs.size], []⟩) _ { s with heap := h1.push { cls := .type "list", data := .seq #[] } }
  rw [← e2]
  have hSI : h1.objs.size ≠ s.heap.objs.size := by rw [sz1]; exact Nat.succ_ne_self _
  have bI := snone s.heap.objs.size (Nat.le_refl _)
  have bS := snone h1.objs.size (by rw [sz1]; exact Nat.le_succ _)
  have neI : ∀ b o, s.heap.get? b = some o → b ≠ s.heap.objs.size := fun b o e q => by rw [q, bI] at e; exact no_some9 e
  have neS : ∀ b o, s.heap.get? b = some o → b ≠ h1.objs.size := fun b o e q => by rw [q, bS] at e; exact no_some9 e
  refine codeAny_builtin PySem.F.entry_min_loop ?_
  rw [Around.under_plainId PySem.F.plain_min_loop _]
  show wpAny _ A.in1 (seqItems? (.ref h1.objs.size) >>= _) _ _ _
  refine wpAny_bind (wpAny_seqItems hS rfl ?_)
  show wpAny _ A.in1 (tryCatch (pyNext (.ref s.heap.objs.size)) _ >>= _) _ _ _
  have hl2 : h2.IsList l vs.toArray := by obtain ⟨o, e, r⟩ := hl; exact ⟨o, k2 _ _ (k1 _ _ e), r⟩
  refine wpAny_bind (wpAny_tryCatch (W.item 0 { s with heap := h2 } _ _ (by rw [List.size_toArray]; exact hne) ⟨⟨_, k2 _ _ it1, rfl, rfl⟩, hl2⟩ fun v h' tk hP hst' hk' => ?_))
  have hv : vs[0]? = some v := by simpa using hP
  have hS' := hk' h1.objs.size _ (by simpa using hSI) hS
  have hb' : ∀ b o, s.heap.get? b = some o → h'.get? b = some o := fun b o e => hk' b o (by simpa using neI b o e) (k2 _ _ (k1 _ _ e))
  show wpAny _ A.in1 (updateSeq h1.objs.size (fun _ => #[v, v]) >>= _) _ _ _
  refine wpAny_bind ?_
  refine wpAny_updateSeq hS' rfl ?_
  rw [hname]
  refine xe13 (hst'.1) fun oI hoI hoc hod => ?_
  refine wpAny_pure ⟨plainId_quiet PySem.F.plain_min_loop _, min_loopH hh hlI hSI bI bS hl bt hcmp _ 0 _ v _ rfl hne (fun b o e => (Heap.get?_update_other _ _ (Ne.symm (neS b o e))).trans (hb' b o e)) ⟨oI, (Heap.get?_update_other _ _ hSI).trans hoI, hoc, hod⟩ hv (Heap.get?_update_self _ hS' rfl) fun v' h'' tk'' hP' hk'' => ?_⟩
  exact hR v' h'' tk'' hP' hk''
end
section
variable {w : World} {p : Program} {loose : List Str} {mean : ExcName → Option Value} {mg mb : Str → Option Value} {G0 : Heap} {lv : Nat} {st : Sta}
/-- the pairs of ints that a list's items are -/
noncomputable def prs (H : Hp) : List AV → Option (List (Int × Int))
  | [] => some []
  | .ref i :: l => (match H.tup i with
    | some [.int a, .int b] => (prs H l).map ((a, b) :: ·)
    | _ => none)
  | _ :: _ => none
noncomputable def ltP (x y : Int × Int) : Bool := if x.1 = y.1 then decide (x.2 < y.2) else decide (x.1 < y.1)
noncomputable def btP (ps : List (Int × Int)) (i j : Nat) : Bool := ltP (ps[i]?.getD (0, 0)) (ps[j]?.getD (0, 0))
noncomputable def fMinP : List AV → Hp → Res AV
  | [.ref i], H => (match H.list i with
    | some vs => (match prs H vs with
      | some ps => (match vs[argBest (btP ps) (vs.length - 1)]? with | some v => .ok v H | none => .stuck)
      | none => .stuck)
    | none => .stuck)
  | _, _ => .stuck
theorem prs_at {H : Hp} : ∀ {vs : List AV} {ps : List (Int × Int)}, prs H vs = some ps → ∀ {k : Nat} {v : AV}, vs[k]? = some v → ∃ i x, v = .ref i ∧ H.get i = some (.tup [.int x.1, .int x.2]) ∧ ps[k]? = some x
  | [], _, _, k, v, h => by simp at h
  | y :: l, ps, e, k, v, h => by
    unfold prs at e
    split at e
    · rename_i q; contradiction
    · rename_i i l' q
      cases q
      split at e
      · rename_i a b e1
        obtain ⟨ps', e2, rfl⟩ := Option.map_eq_some_iff.mp e
        induction k with
        | zero => simp only [List.getElem?_cons_zero, Option.some.injEq] at h; subst h; exact ⟨i, (a, b), rfl, Hp.tup_eq e1, rfl⟩
        | succ k => simp only [List.getElem?_cons_succ] at h ⊢; exact prs_at e2 h
      · exact no_some9 e
    · exact no_some9 e
theorem O_minP (hnh : st.nh = true) (hl : 1 ≤ lv) : SOn w G0 lv st (fun vs => call (.builtin "min") vs) fMinP := fun a φ F H s Qc Ec xs vs ok R hx h => by
  unfold fMinP at h
  split at h
  · rename_i i
    split at h
    · rename_i us e1
      split at h
      · rename_i ps e2
        split at h
        · rename_i v e3
          cases hx with
          | cons hx0 t =>
            cases t
            obtain ⟨hi, rfl⟩ := hx0
            refine xe3 (id R) fun g m news r => ?_
            obtain ⟨ob, hm, ws, c, rfl, hw⟩ := r.lr.get (Hp.list_eq e1)
            have un := ok.units
            refine call_minH (ok.handled hnh) (r.nw.isList hm) (by rw [← hw.length]; exact Nat.lt_of_le_of_lt (Nat.zero_le _) (List.getElem?_eq_some_iff.mp e3).1) (btP ps) (fun i j vi vj s' Q E h1 h2 hk hq => ?_) fun v' h' tk h1 hk => ?_
            · refine xe12 (all2_idx hw h1) fun x z1 z2 => ?_
              refine xe12 (all2_idx hw h2) fun y z3 z4 => ?_
              obtain ⟨i1, p1, rfl, q1, k1⟩ := prs_at e2 z1
              obtain ⟨i2, p2, rfl, q2, k2⟩ := prs_at e2 z3
              obtain ⟨_, rfl⟩ := z2
              obtain ⟨_, rfl⟩ := z4
              obtain ⟨o1, m1, ws1, c1, rfl, hw1⟩ := r.lr.get q1
              obtain ⟨o2, m2, ws2, c2, rfl, hw2⟩ := r.lr.get q2
              cases hw1 with
              | cons x1 t1 => cases t1 with
                | cons x2 t2 => cases t2 with
                  | nil => cases hw2 with
                    | cons y1 u1 => cases u1 with
                      | cons y2 u2 => cases u2 with
                        | nil =>
                          obtain ⟨_, rfl⟩ := x1
                          obtain ⟨_, rfl⟩ := x2
                          obtain ⟨_, rfl⟩ := y1
                          obtain ⟨_, rfl⟩ := y2
                          have g1 := hk _ _ (r.nw _ m1).1
                          have g2 := hk _ _ (r.nw _ m2).1
                          refine richCompare_meets_room (op := .Lt) ⟨_, g1, rfl⟩ ⟨_, g2, rfl⟩ PySem.F.slot_tuple_lt PySem.F.entry_tuple_lt (PySem.F.args_tuple_lt_2 _ _) (tuple_lt2 _ _ p1.1 p1.2 p2.1 p2.2 _ _ _ _ c1 c2 none none #[] #[]) ⟨g1, g2, ⟨(fun x => nomatch x), ?_⟩⟩ (by show a.A.units + 1 < cLine; omega)
                          unfold btP ltP at hq
                          rw [k1, k2] at hq
                          exact hq
            · refine xe12 (all2_idx hw h1) fun x z1 z2 => ?_
              rw [← hw.length, e3] at z1
              obtain rfl := Option.some.inj z1
              exact PO.here h (r.grow (k := tk) hk) _ z2
        · exact h.elim
      · exact h.elim
    · exact h.elim
  · exact h.elim
end
end Mine
end
-- M38
section
open PySem PySem.W PyProof.Rows PySem.Calls PySem.Spec
set_option Elab.async false
set_option linter.all false
set_option genSizeOf false
set_option genInjectivity false
namespace Mine
set_option maxRecDepth 100000

-- readings
noncomputable def eX : EX := fun _ _ => .stuck
noncomputable def aX : AX := fun _ _ => .stuck
noncomputable def bX : TX := fun _ _ => .stuck
noncomputable def tX : ST := fun _ _ => .stuck
noncomputable def hN' : Nat → Addr → Frm → Hp → RS := fun _ _ _ _ => .stuck
noncomputable def eK (v : AV) : EX := fun _ H => .ok v H
noncomputable def eBin (f : AV → AV → Hp → Res AV) (D1 D2 : EX) : EX := fun F H => (D1 F H).bind fun x H1 => (D2 F H1).bind fun y H2 => f x y H2
noncomputable def eUn (f : AV → Hp → Res AV) (D : EX) : EX := fun F H => (D F H).bind fun x H1 => f x H1
noncomputable def eAttr (f : AV → Hp → Res AV) (D : EX) : EX := fun F H => (D F H).bind f
noncomputable def eIf (D : TX) (D1 D2 : EX) : EX := fun F H => (D F H).bind fun c H1 => if c then D1 F H1 else D2 F H1
noncomputable def eAnd (D1 D2 : EX) : EX := fun F H => (D1 F H).bind fun x H1 => (tv x H1).bind fun c H2 => if c then D2 F H2 else .ok x H2
noncomputable def eTup (D : AX) : EX := fun F H => (D F H).bind mkTup
noncomputable def eList (D : AX) : EX := fun F H => (D F H).bind mkList
noncomputable def eItem (D1 D2 : EX) : EX := fun F H => (D1 F H).bind fun x H1 => (D2 F H1).bind fun y H2 => getI x y H2
noncomputable def eSl (scr : Addr × List Int) (k : Int) (D : EX) : EX := fun F H => (D F H).bind (slD scr k)
noncomputable def eCall (DA : AX) (D : List AV → Hp → Res AV) : EX := fun F H => (DA F H).bind D
noncomputable def eCall0 (D : List AV → Hp → Res AV) : EX := fun _ H => D [] H
noncomputable def eMeth (x : Nat) (mt : MT) (D0 : EX) (DA : AX) : EX := fun F H => (D0 F H).bind fun v H1 => match mGet x mt v H1 with | some y => (DA F H1).bind fun xs H2 => y.2.2 (.ref y.1 :: xs) H2 | none => .stuck
noncomputable def eMeth0 (x : Nat) (mt : MT) (D0 : EX) : EX := fun F H => (D0 F H).bind fun v H1 => match mGet x mt v H1 with | some y => y.2.2 [.ref y.1] H1 | none => .stuck
noncomputable def aN : AX := fun _ H => .ok [] H
noncomputable def aC (D1 : EX) (D2 : AX) : AX := fun F H => (D1 F H).bind fun x H1 => (D2 F H1).bind fun xs H2 => .ok (x :: xs) H2
noncomputable def bP (D : EX) : TX := fun F H => (D F H).bind tv
noncomputable def bCmp (f : AV → AV → Hp → Res AV) (D1 D2 : EX) : TX := fun F H => (D1 F H).bind fun x H1 => (D2 F H1).bind fun y H2 => (f x y H2).bind tv
noncomputable def bNot (D : TX) : TX := fun F H => (D F H).bind fun b H1 => .ok (!b) H1
noncomputable def bAndN : TX := fun _ H => .ok true H
noncomputable def bAndC (D1 D2 : TX) : TX := fun F H => (D1 F H).bind fun b H1 => if b then D2 F H1 else .ok false H1
noncomputable def bOrN : TX := fun _ H => .ok false H
noncomputable def bOrC (D1 D2 : TX) : TX := fun F H => (D1 F H).bind fun b H1 => if b then .ok true H1 else D2 F H1
noncomputable def cL (f : AV → AV → Hp → Res AV) (D : EX) : AV → TX := fun x F H => (D F H).bind fun y H2 => (f x y H2).bind tv
noncomputable def cC (f : AV → AV → Hp → Res AV) (D : EX) (D' : AV → TX) : AV → TX := fun x F H => (D F H).bind fun y H2 => (f x y H2).bind fun z H3 => (tv z H3).bind fun b H4 => if b then D' y F H4 else .ok false H4
noncomputable def cX : AV → TX := fun _ _ _ => .stuck
noncomputable def bCh (D1 : EX) (D2 : AV → TX) : TX := fun F H => (D1 F H).bind fun x H1 => D2 x F H1
noncomputable def tN : ST := fun F H => .nx F H
noncomputable def tC (D1 D2 : ST) : ST := fun F H => (D1 F H).bind D2
noncomputable def tRet (D : EX) : ST := fun F H => (D F H).toS F fun v H1 => .ret v F H1
noncomputable def tRet0 : ST := fun F H => .ret .none F H
noncomputable def tIf (D : TX) (D1 D2 : ST) : ST := fun F H => (D F H).toS F fun c H1 => if c then D1 F H1 else D2 F H1
noncomputable def tE (D : EX) : ST := fun F H => (D F H).toS F fun _ H1 => .nx F H1
noncomputable def tName (f : AV → Frm → Hp → Option (Frm × Hp)) (D : EX) : ST := fun F H => (D F H).toS F fun v H1 => match f v F H1 with | some y => .nx y.1 y.2 | none => .stuck
noncomputable def tAttr (f : AV → AV → Hp → Res Unit) (D1 D2 : EX) : ST := fun F H => (D1 F H).toS F fun v H1 => (D2 F H1).toS F fun y H2 => (f y v H2).toS F fun _ H3 => .nx F H3
noncomputable def tSub (f : AV → AV → AV → Hp → Res Unit) (D1 D2 D3 : EX) : ST := fun F H => (D1 F H).toS F fun v H1 => (D2 F H1).toS F fun y H2 => (D3 F H2).toS F fun z H3 => (f y z v H3).toS F fun _ H4 => .nx F H4
noncomputable def tFor (f : VX) (De : EX) (D : ST) : ST := fun F H => (De F H).toS F fun v H1 => (iterD v H1).toS F fun it H2 => match it with | .ref i => loopD f D i 100 F H2 | _ => .stuck
noncomputable def sel (tab : List (Addr × Bool)) : Addr → Option Bool := fun C => tab.lookup C

/-- what a global name is -/
inductive GK where
  | fn (a : Addr) | cls (a fI : Addr) | xcls (a fI : Addr) | int (i : Int) | tup (a : Addr) | bltn (id : String) | typ (id : String)
/-- what a reading may foretell; each foretelling is guarded by an equation -/
structure CH where
  pre : Frm → Hp → Option (List AV × List AV × Int × Int)
  g : Hp → Res AV
structure CG (D : EX) (h : CH) (q : List AV × List AV × Int × Int) : Prop where
  h : ∀ F H, (∀ i a, H.get i = some a → i < H.next) → h.pre F H = some q → D F H = h.g H
structure Orc where
  an : List Int
  cp : Nat → Option CH
  bp : Nat → Option Bool
noncomputable def gE (o : Option CH) (D : EX) : EX := match o with
  | none => D
  | some h => fun F H => match h.pre F H with
    | none => D F H
    | some q => .guard (CG D h q) (h.g H)
/-- a list of ints holds a number, or not -/
structure InG (vs : List AV) (k : Int) (b : Bool) : Prop where
  h : ∃ ns : List Int, vs = ns.map AV.int ∧ ns.any (· == k) = b
noncomputable def inG (b : Bool) : AV → AV → Hp → Res AV
  | .int k, .ref i, H => (match H.list i with
    | some vs => .guard (InG vs k b) (.ok (.bool b) H)
    | none => .stuck)
  | _, _, _ => .stuck
noncomputable def gB (o : Option Bool) (D : TX) : TX := match o with
  | none => D
  | some b => fun F H => (D F H).bind fun c H1 => .guard (c = b) (.ok b H1)
noncomputable def shlG : AV → AV → Hp → Res AV
  | .int a, .int b, H => .guard (0 ≤ b ∧ b ≤ 1000 ∧ a.natAbs < 2 ^ 64) (.ok (.int (a * 2 ^ b.toNat)) H)
  | _, _, _ => .stuck
noncomputable def addG : AV → AV → Hp → Res AV
  | .ref i, .ref j, H => (match H.list i, H.list j with
    | some vs, some us => .guard (vs.length + us.length ≤ 1000) (.ok (.ref H.next) (H.push (.list (vs ++ us))))
    | _, _ => .stuck)
  | _, _, _ => .stuck
noncomputable def appG : AV → AV → Hp → Res AV
  | .ref i, v, H => (match H.list i with
    | some vs => .guard (vs.length ≤ 1000) (.ok .none (H.set i (.list (vs ++ [v]))))
    | _ => .stuck)
  | _, _, _ => .stuck
/-- what a text's body is read with -/
structure Kx where
  call : Bool → Addr → List AV → Hp → Res AV
  lam : Bool → Expr → Scope → EX
  scr : Addr × List Int
  orc : Orc
structure Tc where
  sc : Scope
  nh : Bool
  cm : Bool
  tab : Option (Addr × Addr × Nat)
structure TR where
  E : Tc → Expr → EX
  B : Tc → Expr → TX
  S : Tc → Stmt → ST
/-- the tables of a text -/
structure TB where
  g : List (Str × GK)
  cl : List ((Addr × Str) × Int)
  at_ : List (Str × List Addr × List Addr)
  mt : List (Str × List (Addr × Addr))
  ex : List (Addr × List (Addr × Bool))
  tup : Addr
  ns : List Int
  xs : List Addr
  init : List (Addr × Addr)

noncomputable def notStar (e : Expr) : Bool := !(Nat.beq e.ctorIdx 22)
noncomputable def notSet (e : Expr) : Bool := !(Nat.beq e.ctorIdx 7)
noncomputable def baseOk (e : Expr) : Bool := Nat.beq e.ctorIdx 23 || (Nat.beq e.ctorIdx 20 || Nat.beq e.ctorIdx 21)
noncomputable def notSl (e : Expr) : Bool := !(Nat.beq e.ctorIdx 26)
noncomputable def dEnv (sc : Scope) : Env := { scope := sc, locals := 0, globals := 0, cells := [] }
noncomputable def noSwap (sc : Scope) (e : Expr) (t : Option Expr) (n : Nat) : Bool := match swapsWith e t n (dEnv sc) with
  | .pure false => true
  | _ => false
noncomputable def argsD (f : Expr → EX) : List Expr → AX
  | [] => aN
  | e :: es => if notStar e then aC (f e) (argsD f es) else aX
noncomputable def andD (f : Expr → EX) : List Expr → EX
  | [] => eX
  | [e] => f e
  | e :: e' :: es => eAnd (f e) (andD f (e' :: es))
noncomputable def binD : Operator → AV → AV → Hp → Res AV
  | .Add => alt2 (i2 fAdd) oAddL
  | .Sub => i2 fSub
  | .Mult => alt2 (i2 fMul) oMulL
  | .FloorDiv => i2 fDiv
  | .Mod => i2 fMod
  | .Pow => i2 fPow
  | .LShift => i2 fShl
  | .RShift => i2 fShr
  | .BitAnd => i2 fAnd
  | .BitOr => i2 fOr
  | _ => fun _ _ _ => .stuck
noncomputable def isBO (e : Expr) : Bool := Nat.beq e.ctorIdx 2
noncomputable def isLC (e : Expr) : Bool := Nat.beq e.ctorIdx 8
noncomputable def isSu (e : Expr) : Bool := Nat.beq e.ctorIdx 21
noncomputable def isShl : Operator → Bool
  | .LShift => true
  | _ => false
noncomputable def isAdd : Operator → Bool
  | .Add => true
  | _ => false
noncomputable def binG (l : Expr) (op : Operator) : AV → AV → Hp → Res AV := if isBO l && isShl op then shlG else if isLC l && isAdd op then addG else binD op
noncomputable def isNI : CmpOp → Bool
  | .NotEq => true
  | .In => true
  | _ => false
noncomputable def opsB (bp : Nat → Option Bool) (n : Nat) (ops : List CmpOp) : Option Bool := if ops.length == 1 then (if ops.all isNI then bp n else none) else bp (n + 100000)
noncomputable def cmpD (T : TB) : CmpOp → AV → AV → Hp → Res AV
  | .Eq => opEq true
  | .NotEq => opEq false
  | .Lt => i2 fLt
  | .LtE => i2 fLe
  | .Gt => i2 fGt
  | .GtE => i2 fGe
  | .Is => oIs id
  | .IsNot => oIs not
  | .In => opIn true
  | .NotIn => alt2 (opIn false) (opNinG T.tup T.ns)
noncomputable def unD : UnaryOp → AV → Hp → Res AV
  | .USub => i1 fun a => .int (-a)
  | .Invert => i1 fun a => .int (Builtin.bitNot a)
  | _ => fun _ _ => .stuck
noncomputable def gkD : GK → EX
  | .int i => eK (.int i)
  | .tup a => eK (.glob a)
  | _ => eX
noncomputable def glob? (T : TB) (t : Tc) (x : Str) : Option GK := if eqS x ("__debug__" : Str) then none else match lookS x t.sc.names with
  | some .globalImplicit => lookS x T.g
  | _ => none
noncomputable def nameD (T : TB) (t : Tc) (x : Str) : EX := if eqS x ("__debug__" : Str) then eX else match lookS x t.sc.names with
  | some .local => if kn x then getV (nc x) else eX
  | some .cell => if kn x && x != ("__classdict__" : Str) then getC (nc x) else eX
  | some .free => if kn x && x != ("__classdict__" : Str) then getC (nc x) else eX
  | some .globalImplicit => (match lookS x T.g with | some g => gkD g | none => eX)
  | _ => eX
/-- a class, written by its name -/
noncomputable def clsOf (T : TB) (t : Tc) : Expr → Option Addr
  | .Name X _ => (match glob? T t X with | some (.cls C _) => some C | some (.xcls C _) => some C | _ => none)
  | _ => none
noncomputable def aCls (T : TB) (x : Str) : List Addr := match lookS x T.at_ with | some q => q.1 | none => []
noncomputable def xCls (T : TB) (x : Str) : List Addr := match lookS x T.at_ with | some q => q.2 | none => []
noncomputable def attrD (T : TB) (R : TR) (t : Tc) (o : Expr) (x : Str) : EX := if !baseOk o then eX else match clsOf T t o with
  | some C => (match T.cl.lookup (C, x) with | some i => eK (.int i) | none => eX)
  | none => if kn x then eAttr (alt1 (getA (aCls T x) (nc x)) (getX (xCls T x) (nc x))) (R.E t o) else eX
noncomputable def subD (K : Kx) (R : TR) (t : Tc) (v i : Expr) : EX := match i with
  | .Slice none (some (.Constant (.int k) _ _)) none _ => (match v with | .Name _ _ => eSl K.scr k (R.E t v) | _ => eX)
  | .Slice _ _ _ _ => eX
  | i => eItem (R.E t v) (R.E t i)
noncomputable def pairsD (f : Expr → EX) : List (Option Expr) → List Expr → Option PX
  | [], [] => some dN
  | some (.Constant (.str x) _ _) :: ks, v :: vs => if kn x then (match pairsD f ks vs with | some D => some (dC (nc x) (f v) D) | none => none) else none
  | _, _ => none
noncomputable def dictD (R : TR) (t : Tc) (ks : List (Option Expr)) (vs : List Expr) : EX := match ks, vs with
  | [], [] => eDict0
  | k :: ks, vs => if (k :: ks).length ≤ 15 then (match pairsD (R.E t) (k :: ks) vs with | some D => eDict D | none => eX) else eX
  | _, _ => eX
noncomputable def partD (R : TR) (t : Tc) : Expr → UX
  | .Constant (.str x) _ _ => if x.length ≤ 30 then pK else fun _ _ => .stuck
  | .FormattedValue e (-1) (some (.JoinedStr [.Constant (.str f) _ _] _)) _ => if f == ("x" : Str) then pHex (R.E t e) else fun _ _ => .stuck
  | .FormattedValue e (-1) none _ => pDec (R.E t e)
  | _ => fun _ _ => .stuck
noncomputable def partsD (R : TR) (t : Tc) : List Expr → UX
  | [] => pN
  | e :: es => pC (partD R t e) (partsD R t es)
noncomputable def joinD (R : TR) (t : Tc) (es : List Expr) : EX := match es with
  | e1 :: e2 :: es => if (e1 :: e2 :: es).length ≤ 30 then eF (partsD R t (e1 :: e2 :: es)) else eX
  | _ => eX
noncomputable def isNoArgs : Arguments → Bool
  | ⟨[], [], none, [], [], none, []⟩ => true
  | _ => false
noncomputable def lamD (t : Tc) (args : Arguments) (body : Expr) (sc : Scope) : EX := if isNoArgs args then (match t.tab with
  | some (_, P, tid) => eLam tid P body sc
  | none => eX) else eX
noncomputable def testsD (R : TR) (t : Tc) : List Expr → TX
  | [] => bAndN
  | [c] => R.B t c
  | _ => bX
noncomputable def scOk (sc : Scope) (x : Str) : Bool := sc.names.lookup x == some .local && sc.kind == .function && (sc.names.all fun y => y.2 != .cell) && (sc.names.all fun y => if y.2 == .local then sc.names.lookup y.1 == some .local else true)
noncomputable def compD (R : TR) (t : Tc) (elt : Expr) (gens : List Comprehension) (sc : Scope) : EX := match gens with
  | [⟨.Name x _, it, ifs, 0⟩] => if kn x && t.nh && scOk sc x && notSet it then eComp (nc x) sc (R.E t it) (testsD R ⟨relab sc t.sc, t.nh, true, none⟩ ifs) (R.E ⟨relab sc t.sc, t.nh, true, none⟩ elt) else eX
  | _ => eX
noncomputable def callF (R : TR) (t : Tc) (D : List AV → Hp → Res AV) (args : List Expr) : EX := match args with
  | [] => eCall0 D
  | a :: as => eCall (argsD (R.E t) (a :: as)) D
noncomputable def bltnD (K : Kx) (t : Tc) (id : String) : Option (List AV → Hp → Res AV) :=
  if id = "len" then some (altN fLen (lenG K.scr)) else if id = "divmod" then some fDivmod else if id = "sorted" then some fSorted
  else if id = "sum" then (if t.nh then some fSum else none) else if id = "min" then (if t.nh then some (altN fMin fMinP) else none) else none
noncomputable def isInit (m : Str) : Bool := m == ("__init__" : Str)
/-- a call by a written name -/
noncomputable def callN (T : TB) (K : Kx) (R : TR) (t : Tc) (x : Str) (args : List Expr) : EX := if t.cm then (match glob? T t x with
    | some (.bltn id) => (match args, bltnD K t id with | a :: as, some D => eCall (argsD (R.E t) (a :: as)) D | _, _ => eX)
    | some (.typ id) => (match args with | a :: as => if id = "range" then eCall (argsD (R.E t) (a :: as)) fRange else eX | [] => eX)
    | _ => eX) else match glob? T t x with
  | some (.fn a) => callF R t (K.call t.nh a) args
  | some (.cls C fI) => callF R t (fNew C (K.call t.nh fI)) args
  | some (.xcls C fI) => callF R t (fNewX C (K.call t.nh fI)) args
  | some (.bltn id) => (match args, bltnD K t id with | a :: as, some D => eCall (argsD (R.E t) (a :: as)) D | _, _ => eX)
  | some (.typ id) => (match args with | a :: as => if id = "range" then eCall (argsD (R.E t) (a :: as)) fRange else eX | [] => eX)
  | some _ => eX
  | none => if t.sc.names.lookup x == some .local && args.isEmpty then eCallV (K.lam t.nh) (nameD T t x) else eX
noncomputable def wordsOf : Expr → Bool
  | .Attribute _ x _ => x == ("words" : Str)
  | _ => false
noncomputable def mtD (T : TB) (K : Kx) (t : Tc) (m : Str) : MT := match lookS m T.mt with
  | some l => l.map fun q => (q.1, q.2, K.call t.nh q.2)
  | none => []
/-- a call of a method -/
noncomputable def callM (T : TB) (K : Kx) (R : TR) (t : Tc) (o : Expr) (m : Str) (ap pos : Pos) (args : List Expr) : EX :=
  if !(baseOk o && ap.endLine == pos.line && decide (args.length < 30)) then eX else match o with
  | .Name X _ => (match glob? T t X with
    | some (.typ id) => if id = "ValueError" && isInit m && !t.cm then (match args with | a :: as => eCall (argsD (R.E t) (a :: as)) (fVinit T.xs) | [] => eX) else eX
    | some (.xcls C fI) => if isInit m && !t.cm then (match args with | a :: as => eCall (argsD (R.E t) (a :: as)) (K.call t.nh fI) | [] => eX) else eX
    | some _ => eX
    | none => meth T K R t o m args)
  | _ => meth T K R t o m args
where
  meth (T : TB) (K : Kx) (R : TR) (t : Tc) (o : Expr) (m : Str) (args : List Expr) : EX :=
    if m == ("append" : Str) then (match args with | [e] => if notStar e then eLm (if isSu o then appG else appD) (R.E t o) (R.E t e) else eX | _ => eX)
    else if m == ("pop" : Str) then (match args with | [e] => if notStar e then eLm popD (R.E t o) (R.E t e) else eX | _ => eX)
    else if m == ("get" : Str) && wordsOf o then (match args with | a :: as => eGetZ (R.E t o) (argsD (R.E t) (a :: as)) | [] => eX)
    else if kn m && !t.cm then (match args with
      | [] => eMeth0 (nc m) (mtD T K t m) (R.E t o)
      | a :: as => eMeth (nc m) (mtD T K t m) (R.E t o) (argsD (R.E t) (a :: as))) else eX
noncomputable def callD (T : TB) (K : Kx) (R : TR) (t : Tc) (f : Expr) (args : List Expr) (pos : Pos) : EX := if args.all notStar then (match f with
  | .Name x _ => callN T K R t x args
  | .Attribute o m ap => callM T K R t o m ap pos args
  | _ => eX) else eX
noncomputable def chainD (T : TB) (f : Expr → EX) : List CmpOp → List Expr → AV → TX
  | [op], [r] => cL (cmpD T op) (f r)
  | op :: op' :: ops, r :: r' :: rs => cC (cmpD T op) (f r) (chainD T f (op' :: ops) (r' :: rs))
  | _, _ => cX
noncomputable def andB (f : Expr → TX) : List Expr → TX
  | [] => bAndN
  | e :: es => bAndC (f e) (andB f es)
noncomputable def orB (f : Expr → TX) : List Expr → TX
  | [] => bOrN
  | e :: es => bOrC (f e) (orB f es)
noncomputable def stN (t : Tc) (x : Str) : Option VX := if kn x then (match lookS x t.sc.names with
  | some .local => some (stL (nc x))
  | some .cell => some (stC (nc x))
  | _ => none) else none
noncomputable def tgtD (R : TR) (t : Tc) : Expr → Option VX
  | .Name x _ => stN t x
  | .Subscript o i _ => if notSl i then some (vSub (R.E t o) (R.E t i)) else none
  | _ => none
noncomputable def tgtsD (R : TR) (t : Tc) : List Expr → Option (List AV → Frm → Hp → Option (Frm × Hp))
  | [] => some vN
  | e :: es => (match tgtD R t e, tgtsD R t es with | some f, some g => some (vC f g) | _, _ => none)
noncomputable def bindsD (t : Tc) : List Str → Option (List AV → Frm → Hp → Option (Frm × Hp))
  | [] => some vN
  | x :: xs => (match stN t x, bindsD t xs with | some f, some g => some (vC f g) | _, _ => none)
noncomputable def noSole (t : Tc) (elts : List Expr) (k : Nat) (tp : Pos) (v : Expr) (pos : Pos) : Bool := match swapsWithSole [.Tuple elts k tp] v pos.line (dEnv t.sc) with | .pure false => true | _ => false
noncomputable def tupS (R : TR) (t : Tc) (elts : List Expr) (k : Nat) (tp : Pos) (v : Expr) (pos : Pos) : ST :=
  if t.nh && noSole t elts k tp v pos then (match swappedStores [.Tuple elts k tp] v (dEnv t.sc) with
    | .pure none => (match tgtsD R t elts with | some f => tUnp elts.length f (R.E t v) | none => tX)
    | .pure (some names) => (match bindsD t names.reverse with | some f => tSwp names.length f (R.E t v) | none => tX)
    | _ => tX) else tX
noncomputable def stmtsD (f : Stmt → ST) : List Stmt → ST
  | [] => tN
  | s :: ss => tC (f s) (stmtsD f ss)
noncomputable def Tc.hd (t : Tc) : Tc := { t with nh := false }
noncomputable def selD (T : TB) (t : Tc) : Expr → Option (List (Addr × Bool))
  | .Name X _ => (match glob? T t X with | some (.xcls C _) => T.ex.lookup C | _ => none)
  | .Tuple [.Name X _, .Name Y _] _ _ => (match glob? T t X, glob? T t Y with
    | some (.xcls C _), some (.xcls C' _) => (match T.ex.lookup C, T.ex.lookup C' with
      | some l, some l' => some (l.filterMap fun p => (l'.lookup p.1).map fun b => (p.1, p.2 || b))
      | _, _ => none)
    | _, _ => none)
  | _ => none
noncomputable def handD (T : TB) (R : TR) (t : Tc) : List ExceptHandler → Nat → Addr → Frm → Hp → RS
  | [] => hN
  | .ExceptHandler (some ty) none [.Raise (some x) (some (.Constant .none _ _)) _] _ :: rest => (match selD T t ty with
    | some l => hR T.xs (sel l) (R.E t.hd x) (handD T R t rest)
    | none => hN')
  | .ExceptHandler (some ty) none (b :: bs) _ :: rest => (match selD T t ty with
    | some l => hC (sel l) (stmtsD (R.S t.hd) (b :: bs)) (handD T R t rest)
    | none => hN')
  | .ExceptHandler (some ty) (some n) (b :: bs) _ :: rest => if kn n && t.sc.names.lookup n == some .local then (match selD T t ty with
    | some l => hA (nc n) (sel l) (stmtsD (R.S t.hd) (b :: bs)) (handD T R t rest)
    | none => hN') else hN'
  | _ => hN'
noncomputable def cmpE (T : TB) (f : Expr → EX) (l : Expr) (ops : List CmpOp) (rs : List Expr) : EX := match ops, rs with
  | [op], [r] => if notSet r then eBin (cmpD T op) (f l) (f r) else eX
  | _, _ => eX
noncomputable def isIn1 : List CmpOp → Bool
  | [op] => (match op with | .In => true | _ => false)
  | _ => false
noncomputable def inB (bp : Nat → Option Bool) (n : Nat) (f : Expr → EX) (l : Expr) (ops : List CmpOp) (rs : List Expr) (D : TX) : TX := if isIn1 ops then (match bp n, rs with
  | some b, [r] => if notSet r then bCmp (inG b) (f l) (f r) else D
  | _, _ => D) else D
noncomputable def cmpB (T : TB) (f : Expr → EX) (l : Expr) (ops : List CmpOp) (rs : List Expr) : TX := match ops, rs with
  | [op], [r] => if notSet r then bCmp (cmpD T op) (f l) (f r) else bX
  | op :: op' :: ops, r :: r' :: rs => if lastMarks (op :: op' :: ops) (r :: r' :: rs) = false then bCh (f l) (chainD T f (op :: op' :: ops) (r :: r' :: rs)) else bX
  | _, _ => bX
noncomputable def callKw (T : TB) (K : Kx) (R : TR) (t : Tc) (f : Expr) (args : List Expr) (kws : List Keyword) (pos : Pos) : EX := if kws.isEmpty then callD T K R t f args pos else eX
noncomputable def asgD (R : TR) (t : Tc) (T : TB) (targets : List Expr) (e : Expr) (pos : Pos) : ST := match targets with
  | [.Name x xp] => if noSwap t.sc e (some (.Name x xp)) pos.line then (match stN t x with | some f => tName f (R.E t e) | none => tX) else tX
  | [.Attribute o x ap] => if noSwap t.sc e (some (.Attribute o x ap)) pos.line && kn x then tAttr (altU (setA (aCls T x) (nc x)) (setX (xCls T x) (nc x))) (R.E t e) (R.E t o) else tX
  | [.Subscript o i ap] => if noSwap t.sc e (some (.Subscript o i ap)) pos.line && notSl i then (if wordsOf o then tSub setZ (R.E t e) (R.E t o) (R.E t i) else tSub setI (R.E t e) (R.E t o) (R.E t i)) else tX
  | [.Tuple elts k tp] => tupS R t elts k tp e pos
  | _ => tX
noncomputable def forD (R : TR) (t : Tc) (tgt it : Expr) (b o : List Stmt) : ST := match tgt, o with
  | .Name x _, [] => if t.nh && notSet it then (match stN t x with | some f => tFor f (R.E t it) (stmtsD (R.S t) b) | none => tX) else tX
  | _, _ => tX
noncomputable def raiD (R : TR) (t : Tc) (T : TB) (x c : Option Expr) : ST := match x, c with
  | some e, none => if t.nh then tRaise T.xs (R.E t e) else tX
  | _, _ => tX
noncomputable def tryD (R : TR) (t : Tc) (T : TB) (b : List Stmt) (hs : List ExceptHandler) (o f : List Stmt) : ST := match hs, o, f with
  | h :: hs, [], [] => if t.cm then tX else tTry (stmtsD (R.S t) b) (handD T R t (h :: hs))
  | _, _, _ => tX
noncomputable def exprD (R : TR) (t : Tc) (e : Expr) (n : Nat) : ST := if noSwap t.sc e none n then tE (R.E t e) else tX
noncomputable def stepE (T : TB) (K : Kx) (R : TR) (t : Tc) : Expr → EX
  | .Constant c _ _ => (match c with
    | .int i => eK (.int i)
    | .bool b => eK (.bool b)
    | .none => eK .none
    | .str x => if kn x then eK (.str (nc x)) else eK .txt
    | _ => eX)
  | .Name x _ => nameD T t x
  | .BinOp l op r _ => eBin (binG l op) (R.E t l) (R.E t r)
  | .UnaryOp op x _ => eUn (unD op) (R.E t x)
  | .BoolOp op vs _ => (match op with | .And => andD (R.E t) vs | .Or => eX)
  | .Compare l ops rs _ => cmpE T (R.E t) l ops rs
  | .IfExp c b o _ => eIf (R.B t c) (R.E t b) (R.E t o)
  | .Attribute o x _ => attrD T R t o x
  | .Tuple es _ _ => eTup (argsD (R.E t) es)
  | .List es _ => eList (argsD (R.E t) es)
  | .Subscript v i _ => subD K R t v i
  | .Dict ks vs _ => dictD R t ks vs
  | .JoinedStr es _ => joinD R t es
  | .Lambda args body sc _ => lamD t args body sc
  | .ListComp elt gens sc pos => gE (K.orc.cp pos.line) (compD R t elt gens sc)
  | .Call f args kws pos => callKw T K R t f args kws pos
  | _ => eX
noncomputable def stepB (T : TB) (K : Kx) (R : TR) (t : Tc) : Expr → TX
  | .Compare l ops rs pos => inB K.orc.bp pos.line (R.E t) l ops rs (gB (opsB K.orc.bp pos.line ops) (cmpB T (R.E t) l ops rs))
  | .UnaryOp op x _ => (match op with | .Not => bNot (R.B t x) | _ => bX)
  | .BoolOp op vs _ => (match op with | .And => andB (R.B t) vs | .Or => orB (R.B t) vs)
  | .IfExp _ _ _ _ => bX
  | .BinOp l op r pos => gB (K.orc.bp (pos.line + 200000)) (bP (R.E t (.BinOp l op r pos)))
  | e => bP (R.E t e)
noncomputable def stepS (T : TB) (R : TR) (t : Tc) : Stmt → ST
  | .Return v _ => (match v with | some e => tRet (R.E t e) | none => tRet0)
  | .Expr e pos => exprD R t e pos.line
  | .If c b o _ => tIf (R.B t c) (stmtsD (R.S t) b) (stmtsD (R.S t) o)
  | .Assign targets e pos => asgD R t T targets e pos
  | .For tgt it b o _ => forD R t tgt it b o
  | .Raise x c _ => raiD R t T x c
  | .Try b hs o f _ => tryD R t T b hs o f
  | _ => tX
noncomputable def tr (T : TB) (K : Kx) : Nat → TR
  | 0 => ⟨fun _ _ => eX, fun _ _ => bX, fun _ _ => tX⟩
  | n + 1 => ⟨stepE T K (tr T K n), stepB T K (tr T K n), stepS T (tr T K n)⟩
end Mine
end
-- M39
section
open PySem PySem.W PyProof.Rows PySem.Calls PySem.Spec
set_option Elab.async false
set_option linter.all false
namespace Mine
set_option maxRecDepth 100000
noncomputable def GOk (w : World) (x : Str) : GK → Prop
  | .fn a => nsIn (hd.heap_39 w.params) mainGlobals x = some (some (.ref a)) ∧ keepIn (hd.heap_39 w.params) (.ref a) = true
  | .cls C fI => nsIn (hd.heap_39 w.params) mainGlobals x = some (some (.ref C)) ∧ keepIn (hd.heap_39 w.params) (.ref C) = true ∧ makesIn (hd.heap_39 w.params) C = true ∧ findIn (hd.heap_39 w.params) (.ref C) "__init__" = some (some (.ref fI)) ∧ typeIn (hd.heap_39 w.params) (.ref fI) = some (.type "function")
  | .xcls C fI => nsIn (hd.heap_39 w.params) mainGlobals x = some (some (.ref C)) ∧ keepIn (hd.heap_39 w.params) (.ref C) = true ∧ XD w C ∧ findIn (hd.heap_39 w.params) (.ref C) "__init__" = some (some (.ref fI)) ∧ typeIn (hd.heap_39 w.params) (.ref fI) = some (.type "function") ∧
      specialIn (hd.heap_39 w.params) (.ref C) "__getattribute__" = some (some (.builtin "type.__getattribute__")) ∧ (∃ mc, readsIn (hd.heap_39 w.params) C mc = true ∧ findCls (hd.heap_39 w.params) (.ref C) mc "__init__" = some (.val (.ref fI))) ∧ keepIn (hd.heap_39 w.params) (.ref fI) = true
  | .int i => ∃ t, nsIn (hd.heap_39 w.params) mainGlobals x = some (some (.int i t))
  | .tup a => nsIn (hd.heap_39 w.params) mainGlobals x = some (some (.ref a))
  | .bltn id => nsIn (hd.heap_39 w.params) mainGlobals x = some none ∧ bootBuiltins x = some (.builtin id) ∧ x ≠ "__name__"
  | .typ id => nsIn (hd.heap_39 w.params) mainGlobals x = some none ∧ bootBuiltins x = some (.type id) ∧ x ≠ "__name__"
structure TOk (w : World) (T : TB) : Prop where
  g : ∀ q ∈ T.g, GOk w q.1 q.2
  cl : ∀ q ∈ T.cl, ∃ mc t, typeIn (hd.heap_39 w.params) (.ref q.1.1) = some mc ∧ readsIn (hd.heap_39 w.params) q.1.1 mc = true ∧ findCls (hd.heap_39 w.params) (.ref q.1.1) mc q.1.2 = some (.val (.int q.2 t))
  at_ : ∀ q ∈ T.at_, (∀ C ∈ q.2.1, GetOk w q.1 C ∧ SetOk w q.1 C) ∧ ∀ C ∈ q.2.2, (XD w C ∧ findIn (hd.heap_39 w.params) (.ref C) "__getattr__" = some none ∧ findIn (hd.heap_39 w.params) (.ref C) q.1 = some none) ∧ takerIn (hd.heap_39 w.params) C q.1 = some none
  mt : ∀ q ∈ T.mt, ∀ r ∈ q.2, plainGet (hd.heap_39 w.params) r.1 q.1 = true ∧ findIn (hd.heap_39 w.params) (.ref r.1) q.1 = some (some (.ref r.2)) ∧ isFn (hd.heap_39 w.params) (.ref r.2) = true ∧ keepIn (hd.heap_39 w.params) (.ref r.2) = true
  ex : ∀ q ∈ T.ex, ∀ r ∈ q.2, exmOne (hd.heap_39 w.params) (.ref r.1) (.ref q.1) = some r.2
  tup : ∃ l n dd sl, (hd.heap_39 w.params).lookup T.tup = some ⟨.type "tuple", dd, .seq (List.toArray l) n, sl⟩ ∧ IntsAre l T.ns
  xs : ∀ C ∈ T.xs, XD w C
  vi : findCls (hd.heap_39 w.params) (.type "ValueError") (.type "type") "__init__" = some (.val (.builtin "ValueError.__init__"))
theorem lookup_memS {α β : Type} [BEq α] [LawfulBEq α] : ∀ {l : List (α × β)} {x : α} {b : β}, l.lookup x = some b → (x, b) ∈ l
  | [], _, _, e => by exact no_some9 e
  | (k, v) :: l, x, b, e => by
    rw [List.lookup_cons] at e
    induction h : (x == k) with
    | true => rw [h] at e; obtain rfl := Option.some.inj e; rw [eq_of_beq h]; exact .head _
    | false => rw [h] at e; exact .tail _ (lookup_memS e)
/-- the frame's own words -/
structure StOk (G0 : Heap) (st : Sta) (t : Tc) : Prop where
  sc : st.scope = t.sc
  nh : st.nh = t.nh
  cm : st.cm = t.cm
  tab : ∀ c P tid, t.tab = some (c, P, tid) → st.cdv = .ref c ∧ CodeHd G0 c P
section
variable {w : World} {p : Program} {loose : List Str} {mean : ExcName → Option Value} {mg mb : Str → Option Value} {G0 : Heap} {lv : Nat} {st : Sta}
theorem O_shlG : SO2 w G0 lv st (binaryOp .LShift) shlG := fun a φ F H s Qc Ec x y v u ok R hx hy h => by
  unfold shlG at h
  split at h
  · rename_i p q
    have h : _ ∧ _ := h
    refine O_shl a φ F H s Qc Ec (.int p) (.int q) v u ok R hx hy ?_
    rw [show i2 fShl (.int p) (.int q) H = .ok (.int (p * 2 ^ q.toNat)) H from by unfold i2 fShl; dsimp only; rw [if_pos h.1]]
    exact h.2
  · exact h.elim
theorem O_addG : SO2 w G0 lv st (binaryOp .Add) addG := fun a φ F H s Qc Ec x y v u ok R hx hy h => by
  unfold addG at h
  split at h
  · rename_i i j
    split at h
    · rename_i vs us e1 e2
      have h : _ ∧ _ := h
      refine O_addL a φ F H s Qc Ec (.ref i) (.ref j) v u ok R hx hy ?_
      unfold oAddL; dsimp only; rw [e1, e2]; dsimp only; rw [if_pos h.1]
      exact h.2
    · exact h.elim
  · exact h.elim
theorem O_appG : SO2 w G0 lv st (fun v u => call (.builtin "list.append") [v, u]) appG := fun a φ F H s Qc Ec x y v u ok R hx hy h => by
  unfold appG at h
  split at h
  · rename_i i
    split at h
    · rename_i vs e1
      have h : _ ∧ _ := h
      refine O_app a φ F H s Qc Ec (.ref i) y v u ok R hx hy ?_
      unfold appD; dsimp only; rw [e1]; dsimp only; rw [if_pos h.1]
      exact h.2
    · exact h.elim
  · exact h.elim
theorem E_guard {e : Expr} {D : EX} {o : Option CH} (hD : SE w G0 lv st e D) : SE w G0 lv st e (gE o D) := by
  induction o with
  | none => exact hD
  | some g =>
    intro a φ F H s Qc Ec ok R h
    replace h : PO w a φ H.next F (match g.pre F H with | none => D F H | some q => .guard (CG D g q) (g.g H)) (fun x φ' H' s' => ∀ v, VR φ' H'.next x v → Qc v s') Ec := h
    refine hD a φ F H s Qc Ec ok R ?_
    induction q : g.pre F H with
    | none => rw [q] at h; exact h
    | some q' =>
      rw [q] at h
      have h : _ ∧ _ := h
      rw [h.1.h F H (fun i a e => by obtain ⟨g', m, news, r⟩ := R; exact r.lr.idLt e) q]; exact h.2
theorem intsA_map : ∀ ns : List Int, intsA (ns.map AV.int) = some ns
  | [] => rfl
  | n :: ns => by rw [List.map_cons]; unfold intsA; rw [intsA_map ns]; rfl
theorem O_inG {b : Bool} : SO2 w G0 lv st (compareOp .In) (inG b) := fun a φ F H s Qc Ec x y v u ok R hx hy h => by
  unfold inG at h
  split at h
  · rename_i k i
    split at h
    · rename_i vs e1
      have h : _ ∧ _ := h
      obtain ⟨⟨ns, e2, e3⟩, h2⟩ := h
      refine O_in a φ F H s Qc Ec (.int k) (.ref i) v u ok R hx hy ?_
      have e4 : seqI i H = some ns := by
        unfold seqI
        rw [show H.seq i = some vs from by unfold Hp.seq; rw [e1], e2]
        exact intsA_map ns
      unfold opIn; dsimp only; rw [e4]; dsimp only; rw [e3, show (b == true) = b from by induction b <;> rfl]
      exact h2
    · exact h.elim
  · exact h.elim
theorem B_guard {e : Expr} {D : TX} {o : Option Bool} (hD : SB w G0 lv st e D) : SB w G0 lv st e (gB o D) := by
  induction o with
  | none => exact hD
  | some b =>
    intro a φ F H s Qc Ec ok R h
    refine hD a φ F H s Qc Ec ok R (PO.bind2 (k := fun c H1 => .guard (c = b) (.ok b H1)) h fun c φ1 H1 s1 R1 X1 h' => ?_)
    have h' : _ ∧ _ := h'
    rw [h'.1]
    exact h'.2 φ1 s1 R1 .refl
theorem isIn1_eq {ops : List CmpOp} (h : isIn1 ops = true) : ops = [.In] := by
  induction ops with
  | nil => exact no_true9 h
  | cons op l =>
    induction l with
    | nil => induction op <;> first | rfl | cases h
    | cons _ _ => exact no_true9 h
theorem S_txt {x : Str} {k : Nat} {pos : Pos} : SE w G0 lv st (.Constant (.str x) k pos) (eK .txt) := fun a φ F H s Qc Ec ok R h =>
  wpAny_Constant_str (PO.here h (RelX.toks R) _ ⟨_, _, rfl⟩)
theorem E_stuck {e : Expr} : SE w G0 lv st e eX := fun a φ F H s Qc Ec ok R h => h.elim
theorem B_stuck {e : Expr} : SB w G0 lv st e bX := fun a φ F H s Qc Ec ok R h => h.elim
theorem T_stuck {e : Stmt} : SS w G0 lv st e tX := fun a φ F H s Q E ok R hE h => h.elim
theorem A_stuck {e : List Expr} : SA w G0 lv st e aX := fun a φ F H s Qc Ec pos ok R h => h.elim
theorem C_stuck {ops : List CmpOp} {rs : List Expr} : SC w G0 lv st ops rs cX := fun a φ F H s Qc Ec pos x v ok R hv h => h.elim
theorem P_stuck {e : Expr} : SP w G0 lv st e (fun _ _ => .stuck) := fun a φ F H s Qc Ec ok R h => h.elim
theorem H_stuck {hs : List ExceptHandler} : SH w G0 lv st hs hN' := fun a φ F H s Q E e C d tb cx ok R hE he ht h => h.elim
theorem O2_stuck {t : Value → Value → Sem Value} : SO2 w G0 lv st t (fun _ _ _ => .stuck) := fun a φ F H s Qc Ec x y v u ok R hx hy h => h.elim
theorem O1_stuck {t : Value → Sem Value} : SO1 w G0 lv st t (fun _ _ => .stuck) := fun a φ F H s Qc Ec x v ok R hx h => h.elim
theorem SF.mono {f : Value} {D : List AV → Hp → Res AV} {lv' : Nat} {nh : Bool} (h : SF w G0 lv nh f D) (l : lv ≤ lv') : SF w G0 lv' nh f D := fun ks A outer fs s φ H news R xs vs B hx hp =>
  h ks A outer fs s φ H news R xs vs ⟨B.handled, B.frames, by have := B.depth; lia, by have := B.units; lia, B.outer, B.fs, B.stays, B.lr, B.there⟩ hx hp
theorem SE.mono {e : Expr} {D : EX} {lv' : Nat} (h : SE w G0 lv st e D) (l : lv ≤ lv') : SE w G0 lv' st e D := fun a φ F H s Qc Ec ok R hp =>
  h a φ F H s Qc Ec ⟨ok.handled, ok.frames, by have := ok.depth; lia, by have := ok.units; lia, ok.outer, ok.kind, ok.fs, ok.stays⟩ R hp
theorem S_call0 (GD : Gd w p loose mean mg mb G0) {fe : Expr} {f : Addr} {pos : Pos} {D : List AV → Hp → Res AV} (hn : SE w G0 lv st fe (fun _ H => .ok (.glob f) H)) (hk : keepIn (hd.heap_39 w.params) (.ref f) = true) (hf : SOn w G0 lv st (fun vs => call (.ref f) vs) D)
    (hc : ∀ env : Env, eval (.Call fe [] [] pos) env = (do callWith pos (← eval fe env) [] (backTo pos (starEach [] env)) (backToKw pos (keywordEach [] env)))) : SE w G0 lv st (.Call fe [] [] pos) (eCall0 D) := fun a φ F H s Qc Ec ok R h =>
  Call_ (hn a φ F H s _ Ec ok R (fun φ1 s1 R1 X1 v hv => by
    subst hv
    exact callWith_K0 (kin_of GD ok R1) hk (hf a φ1 F H s1 Qc Ec [] [] ok R1 .nil (PO.weak h X1)))) (hc _)
-- shapes
theorem star_cons {e : Expr} {es : List Expr} (h : notStar e = true) (env : Env) : starEach (e :: es) env = (false, eval e env) :: starEach es env := by
  induction e using PySem.Expr.casesOn <;> first | rfl | cases h
theorem star_any {pos : Pos} {env : Env} : ∀ {es : List Expr}, es.all notStar = true → (backTo pos (starEach es env)).any (·.1) = false
  | [], _ => rfl
  | e :: es, h => by
    rw [List.all_cons, Bool.and_eq_true] at h
    rw [star_cons h.1]
    show (false || (backTo pos (starEach es env)).any (·.1)) = false
    rw [star_any h.2]; rfl
theorem set_fold {e : Expr} (h : notSet e = true) (env : Env) (x : Value) : foldedSetIterable e env x = pure x := by
  induction e using PySem.Expr.casesOn <;> first | rfl | cases h
theorem set_marks {e : Expr} {op : CmpOp} (h : notSet e = true) : behindInMarks op e = false := by
  induction e using PySem.Expr.casesOn <;> first | rfl | cases h
theorem sl_sub {e : Expr} (h : notSl e = true) (a k : Value) : subscripted e false a k = operate [a, k] (getItem a k) := by
  induction e using PySem.Expr.casesOn <;> first | rfl | cases h
theorem attr_eq {o : Expr} {x : Str} {pos : Pos} (h : baseOk o = true) (env : Env) : eval (.Attribute o x pos) env = (do let v ← eval o env; standAt pos.atName; let r ← holding [v] (getAttr v x true); letTemporaryGo o v r; pure r) := by
  induction o using PySem.Expr.casesOn <;> first | rfl | cases h
noncomputable def plOf (o : Expr) (env : Env) : Sem Bool := do return (← importBound o env).getD true
theorem meth_eq {o : Expr} {x : Str} {ap pos : Pos} {es : List Expr} (h : baseOk o = true) (hp : (ap.endLine == pos.line) = true) (hs : es.all notStar = true) (hn : es.length < 30) (env : Env) : eval (.Call (.Attribute o x ap) es [] pos) env = (do let ov ← eval o env; standAt ap.atName; let y ← holding [ov] (getMethod ov x (plOf o env)); callWith pos y.1 y.2 (backTo pos (starEach es env)) []) := by
  have hf : methodCallForm (es.length + 0) (backTo pos (starEach es env)) [] = true := by
    unfold methodCallForm
    rw [show (backTo pos (starEach es env)).all (fun x => !x.1) = !((backTo pos (starEach es env)).any (·.1)) from by rw [List.not_any_eq_all_not], star_any hs]
    simp [hn]
  have e1 : ∀ ov, methodCall o x ap pos env ov (es.length + 0) (backTo pos (starEach es env)) [] = (do let y ← holding [ov] (getMethod ov x (plOf o env)); callWith pos y.1 y.2 (backTo pos (starEach es env)) []) := fun ov => by
    unfold methodCall
    rw [hf]
    unfold methodCallPos
    rw [if_pos (by rw [hp]; rfl)]
    rfl
  have e2 : eval (.Call (.Attribute o x ap) es [] pos) env = (do let ov ← eval o env; standAt ap.atName; methodCall o x ap pos env ov (es.length + 0) (backTo pos (starEach es env)) []) := by
    induction o using PySem.Expr.casesOn <;> first | rfl | cases h
  rw [e2]
  simp only [e1]
theorem pure_false {x : Sem Bool} (h : (match x with | .pure false => true | _ => false) = true) : x = pure false := by
  induction x <;> first | exact no_true9 h | skip
  case pure b =>
    cases b
    · rfl
    · exact no_true9 h
theorem swap_ok {a : Act} {e : Expr} {t : Option Expr} {n : Nat} (h : noSwap st.scope e t n = true) : swapsWith e t n (a.env st) = pure false := by
  have : swapsWith e t n (a.env st) = swapsWith e t n (dEnv st.scope) := rfl
  rw [this]
  exact pure_false h
-- lists
theorem args_ok {f : Expr → EX} (hf : ∀ e, SE w G0 lv st e (f e)) : ∀ es, SA w G0 lv st es (argsD f es)
  | [] => A_nil
  | e :: es => by
    unfold argsD
    split
    · rename_i h; exact A_cons (hf e) (args_ok hf es) (star_cons h)
    · exact A_stuck
theorem and_ok {f : Expr → EX} (hf : ∀ e, SE w G0 lv st e (f e)) {pos : Pos} : ∀ es, SE w G0 lv st (.BoolOp .And es pos) (andD f es)
  | [] => E_stuck
  | [e] => S_bone (hf e)
  | e :: e' :: es => S_and (hf e) (and_ok hf (e' :: es))
theorem andB_ok {f : Expr → TX} (hf : ∀ e, SB w G0 lv st e (f e)) : ∀ es, SBs w G0 lv st .And es (andB f es)
  | [] => B_and_nil
  | e :: es => B_and_cons (hf e) (andB_ok hf es)
theorem orB_ok {f : Expr → TX} (hf : ∀ e, SB w G0 lv st e (f e)) : ∀ es, SBs w G0 lv st .Or es (orB f es)
  | [] => B_or_nil
  | e :: es => B_or_cons (hf e) (orB_ok hf es)
theorem bin_ok (op : Operator) : SO2 w G0 lv st (binaryOp op) (binD op) := by
  cases op
  · exact O_alt2 O_add O_addL
  · exact O_sub
  · exact O_alt2 O_mul O_mulL
  · exact O2_stuck
  · exact O2_stuck
  · exact O_mod
  · exact O_pow
  · exact O_shl
  · exact O_shr
  · exact O_or
  · exact O2_stuck
  · exact O_and
  · exact O_div
theorem un_ok (op : UnaryOp) : SO1 w G0 lv st (unaryOp op) (unD op) := by
  cases op
  · exact O_inv
  · exact O1_stuck
  · exact O1_stuck
  · exact O_neg
theorem cmp_ok (GD : Gd w p loose mean mg mb G0) {T : TB} (hT : TOk w T) (hl : 1 ≤ lv) (op : CmpOp) : SO2 w G0 lv st (compareOp op) (cmpD T op) := by
  cases op
  · exact O_eq hl
  · exact O_ne hl
  · exact C_lt
  · exact C_le
  · exact C_gt
  · exact C_ge
  · exact C_is
  · exact C_isnot
  · exact O_in
  · refine xe42 (hT.tup) fun l n dd sl h1 h2 => ?_
    exact O_alt2 O_nin (O_ninG GD h1 h2)
theorem chain_ok (GD : Gd w p loose mean mg mb G0) {T : TB} (hT : TOk w T) (hl : 1 ≤ lv) {f : Expr → EX} (hf : ∀ e, SE w G0 lv st e (f e)) : ∀ ops rs, SC w G0 lv st ops rs (chainD T f ops rs)
  | [], [] => C_stuck
  | [], _ :: _ => C_stuck
  | [op], [] => C_stuck
  | [op], [r] => C_last (cmp_ok GD hT hl op) (hf r)
  | [op], _ :: _ :: _ => C_stuck
  | _ :: _ :: _, [] => C_stuck
  | _ :: _ :: _, [_] => C_stuck
  | op :: op' :: ops, r :: r' :: rs => C_link (cmp_ok GD hT hl op) (hf r) (chain_ok GD hT hl hf (op' :: ops) (r' :: rs))
theorem stmts_ok {f : Stmt → ST} (hf : ∀ s, SS w G0 lv st s (f s)) : ∀ ss, SSs w G0 lv st ss (stmtsD f ss)
  | [] => T_nil
  | s :: ss => T_cons (hf s) (stmts_ok hf ss)
theorem pairs_ok {f : Expr → EX} (hf : ∀ e, SE w G0 lv st e (f e)) : ∀ ks vs {D}, pairsD f ks vs = some D → SD w G0 lv st ks vs D ∧ ks.all (·.isSome) = true ∧ ks.length = vs.length := by
  intro ks
  induction ks with
  | nil =>
    intro vs D e
    induction vs with
    | nil => obtain rfl := Option.some.inj e; exact ⟨D_nil, rfl, rfl⟩
    | cons _ _ => exact no_some9 e
  | cons k ks ih =>
    intro vs D e
    induction k with
    | none => first | exact no_some9 e | (induction vs <;> exact no_some9 e)
    | some k =>
      induction k using PySem.Expr.casesOn <;> first | exact no_some9 e | skip
      case Constant c kk kp =>
        induction c <;> first | exact no_some9 e | skip
        case str x =>
          induction vs with
          | nil => exact no_some9 e
          | cons v vs =>
            change (if kn x = true then _ else _) = _ at e
            split at e
            · rename_i hk
              split at e
              · rename_i D' e'
                obtain rfl := Option.some.inj e
                refine xa3 (ih _ e') fun h1 h2 h3 => ?_
                refine ⟨D_cons (kn_KN hk) (hf v) h1, ?_, ?_⟩
                · rw [List.all_cons, h2]; rfl
                · rw [List.length_cons, List.length_cons, h3]
              · exact no_some9 e
            · exact no_some9 e
-- names
theorem g_ok (GD : Gd w p loose mean mg mb G0) {T : TB} (hT : TOk w T) {t : Tc} (ho : StOk G0 st t) {x : Str} {pos : Pos} {g : GK} (h : glob? T t x = some g) : st.scope.names.lookup x = some .globalImplicit ∧ (x == ("__debug__" : Str)) = false ∧ GOk w x g := by
  unfold glob? at h
  rw [eqS_eq, lookS_eq, lookS_eq] at h
  split at h
  · exact no_some9 h
  · rename_i hd
    split at h
    · rename_i e
      exact ⟨by rw [ho.sc]; exact e, by simpa using hd, hT.g _ (lookup_memS h)⟩
    · exact no_some9 h
theorem name_ok (GD : Gd w p loose mean mg mb G0) {T : TB} (hT : TOk w T) {t : Tc} (ho : StOk G0 st t) (x : Str) (pos : Pos) : SE w G0 lv st (.Name x pos) (nameD T t x) := by
  unfold nameD
  rw [eqS_eq, lookS_eq, lookS_eq]
  split
  · exact E_stuck
  · rename_i hdb
    have hdb : (x == ("__debug__" : Str)) = false := by simpa using hdb
    split
    · rename_i e
      split
      · rename_i hk; exact S_local (kn_KN hk) (by rw [ho.sc]; exact e) hdb
      · exact E_stuck
    · rename_i e
      split
      · rename_i hk
        refine xa2 (Bool.and_eq_true_iff.mp hk) fun h1 h2 => ?_
        exact S_cell (kn_KN h1) (.inl (by rw [ho.sc]; exact e)) hdb (by simpa using h2)
      · exact E_stuck
    · rename_i e
      split
      · rename_i hk
        refine xa2 (Bool.and_eq_true_iff.mp hk) fun h1 h2 => ?_
        exact S_cell (kn_KN h1) (.inr (by rw [ho.sc]; exact e)) hdb (by simpa using h2)
      · exact E_stuck
    · rename_i e
      split
      · rename_i g hg
        have hG := hT.g _ (lookup_memS hg)
        unfold gkD
        split
        · refine xe1 (hG) fun t ht => ?_
          exact S_glob GD (fun _ _ => ⟨_, rfl⟩) ht (by rw [ho.sc]; exact e) hdb
        · exact S_glob GD (fun _ _ => rfl) hG (by rw [ho.sc]; exact e) hdb
        · exact E_stuck
      · exact E_stuck
    · exact E_stuck
theorem ref_ok (GD : Gd w p loose mean mg mb G0) {x : Str} {pos : Pos} {a : Addr} (h : st.scope.names.lookup x = some .globalImplicit) (hdb : (x == ("__debug__" : Str)) = false) (hn : nsIn (hd.heap_39 w.params) mainGlobals x = some (some (.ref a))) : SE w G0 lv st (.Name x pos) (fun _ H => .ok (.glob a) H) := S_glob GD (fun _ _ => rfl) hn h hdb
theorem stN_ok {t : Tc} (ho : StOk G0 st t) {x : Str} {f : VX} (h : stN t x = some f) : SN w G0 lv st x f := by
  unfold stN at h
  rw [lookS_eq] at h
  split at h
  · rename_i hk
    split at h
    · rename_i e; obtain rfl := Option.some.inj h; exact N_loc (kn_KN hk) (by rw [ho.sc]; exact e)
    · rename_i e; obtain rfl := Option.some.inj h; exact N_cell (kn_KN hk) (by rw [ho.sc]; exact e)
    · exact no_some9 h
  · exact no_some9 h
end
end Mine
end
-- M40
section
open PySem PySem.W PyProof.Rows PySem.Calls PySem.Spec
set_option Elab.async false
set_option linter.all false
namespace Mine
set_option maxRecDepth 100000
section
variable {w : World} {p : Program} {loose : List Str} {mean : ExcName → Option Value} {mg mb : Str → Option Value} {G0 : Heap} {lv : Nat} {st : Sta}
/-- every reading of R is right at a level -/
structure ROk (w : World) (G0 : Heap) (lv : Nat) (R : TR) : Prop where
  E : ∀ st t e, StOk G0 st t → SE w G0 lv st e (R.E t e)
  B : ∀ st t e, StOk G0 st t → SB w G0 lv st e (R.B t e)
  S : ∀ st t s, StOk G0 st t → SS w G0 lv st s (R.S t s)
/-- every callee is right -/
structure KOk (w : World) (G0 : Heap) (lv : Nat) (K : Kx) : Prop where
  call : ∀ nh f, SF w G0 lv nh (.ref f) (K.call nh f)
  lam : ∀ (st : Sta) (body : Expr), st.cm = false → SE w G0 lv st body (K.lam st.nh body st.scope)
  scr : ScrOk G0 K.scr
theorem StOk.hd {t : Tc} (ho : StOk G0 st t) : StOk G0 st.hd t.hd := ⟨ho.sc, rfl, ho.cm, ho.tab⟩
theorem aCls_ok {T : TB} (hT : TOk w T) {x : Str} : ∀ C ∈ aCls T x, GetOk w x C ∧ SetOk w x C := by
  unfold aCls
  rw [lookS_eq]
  split
  · rename_i q e; exact (hT.at_ _ (lookup_memS e)).1
  · intro C h; contradiction
theorem xCls_ok {T : TB} (hT : TOk w T) {x : Str} : ∀ C ∈ xCls T x, (XD w C ∧ findIn (hd.heap_39 w.params) (.ref C) "__getattr__" = some none ∧ findIn (hd.heap_39 w.params) (.ref C) x = some none) ∧ takerIn (hd.heap_39 w.params) C x = some none := by
  unfold xCls
  rw [lookS_eq]
  split
  · rename_i q e; exact (hT.at_ _ (lookup_memS e)).2
  · intro C h; contradiction
theorem cls_ok (GD : Gd w p loose mean mg mb G0) {T : TB} (hT : TOk w T) {t : Tc} (ho : StOk G0 st t) {o : Expr} {C : Addr} (h : clsOf T t o = some C) : SE w G0 lv st o (fun _ H => .ok (.glob C) H) := by
  induction o using PySem.Expr.casesOn <;> first | exact no_some9 h | skip
  · unfold clsOf at h
    dsimp only at h
    split at h
    · rename_i e
      obtain rfl := Option.some.inj h
      refine xa3 (g_ok (pos := ⟨0, 0, 0, 0⟩) GD hT ho e) fun h1 h2 h3 => ?_
      exact ref_ok GD h1 h2 h3.1
    · rename_i e
      obtain rfl := Option.some.inj h
      refine xa3 (g_ok (pos := ⟨0, 0, 0, 0⟩) GD hT ho e) fun h1 h2 h3 => ?_
      exact ref_ok GD h1 h2 h3.1
    · exact no_some9 h
theorem attr_ok (GD : Gd w p loose mean mg mb G0) {T : TB} (hT : TOk w T) {R : TR} (hR : ROk w G0 lv R) {t : Tc} (ho : StOk G0 st t) (o : Expr) (x : Str) (pos : Pos) : SE w G0 lv st (.Attribute o x pos) (attrD T R t o x) := by
  unfold attrD
  split
  · exact E_stuck
  · rename_i hb
    have hb : baseOk o = true := by simpa using hb
    split
    · rename_i C e
      split
      · rename_i i e2
        refine xe23 (hT.cl _ (lookup_memS e2)) fun mc tk h1 h2 h3 => ?_
        exact S_clsA GD (cls_ok GD hT ho e) h1 h2 h3 rfl (fun _ _ => ⟨_, rfl⟩) (attr_eq hb)
      · exact E_stuck
    · split
      · rename_i hk
        exact S_attr (O_alt1 (O_getA GD (kn_KN hk) fun C h => (aCls_ok hT C h).1) (O_getX GD (kn_KN hk) fun C h => (xCls_ok hT C h).1)) (hR.E st t o ho) (attr_eq hb)
      · exact E_stuck
theorem sub_ok {K : Kx} (hK : ScrOk G0 K.scr) {R : TR} (hR : ROk w G0 lv R) {t : Tc} (ho : StOk G0 st t) (v i : Expr) (pos : Pos) : SE w G0 lv st (.Subscript v i pos) (subD K R t v i) := by
  induction i using PySem.Expr.casesOn <;> first | exact S_item (hR.E st t v ho) (hR.E st t _ ho) (sl_sub rfl) | skip
  case Slice a b c p =>
    induction a with
    | some _ => exact E_stuck
    | none =>
      induction b with
      | none => exact E_stuck
      | some b =>
        induction b using PySem.Expr.casesOn <;> first | exact E_stuck | skip
        case Constant k kk kp =>
          induction k <;> first | exact E_stuck | skip
          case int k =>
            induction c with
            | some _ => exact E_stuck
            | none =>
              induction v using PySem.Expr.casesOn <;> first | exact E_stuck | skip
              exact S_slice hK (hR.E st t _ ho)
theorem dict_ok (GD : Gd w p loose mean mg mb G0) {R : TR} (hR : ROk w G0 lv R) {t : Tc} (ho : StOk G0 st t) (ks : List (Option Expr)) (vs : List Expr) (pos : Pos) : SE w G0 lv st (.Dict ks vs pos) (dictD R t ks vs) := by
  unfold dictD
  split
  · exact S_dict0 GD
  · split
    · rename_i hl
      split
      · rename_i D e
        refine xa3 (pairs_ok (fun e => hR.E st t e ho) _ _ e) fun h1 h2 h3 => ?_
        exact S_dict GD h1 h2 h3 hl
      · exact E_stuck
    · exact E_stuck
  · exact E_stuck
theorem part_ok {R : TR} (hR : ROk w G0 lv R) {t : Tc} (ho : StOk G0 st t) (e : Expr) : SP w G0 lv st e (partD R t e) := by
  induction e using PySem.Expr.casesOn <;> first | exact P_stuck | skip
  case Constant c k kp =>
    induction c <;> first | exact P_stuck | skip
    show SP w G0 lv st _ (if _ then _ else _)
    split
    · rename_i h; exact P_const h
    · exact P_stuck
  case FormattedValue e n sp pos =>
    induction n with
    | ofNat _ => exact P_stuck
    | negSucc n =>
    induction n with
    | succ _ => exact P_stuck
    | zero =>
    induction sp with
    | none => exact P_dec (hR.E st t _ ho)
    | some sp =>
    induction sp using PySem.Expr.casesOn <;> first | exact P_stuck | skip
    case JoinedStr es p =>
    induction es with
    | nil => exact P_stuck
    | cons e2 r =>
    induction e2 using PySem.Expr.casesOn <;> first | exact P_stuck | skip
    case Constant c kk kp =>
    induction c <;> first | exact P_stuck | skip
    case str x =>
    induction r with
    | cons _ _ => exact P_stuck
    | nil =>
      show SP w G0 lv st _ (if _ then _ else _)
      split
      · rename_i h
        obtain rfl := eq_of_beq h
        exact P_hex (hR.E st t _ ho)
      · exact P_stuck
theorem parts_ok {R : TR} (hR : ROk w G0 lv R) {t : Tc} (ho : StOk G0 st t) : ∀ es, SPs w G0 lv st es (partsD R t es)
  | [] => P_nil
  | e :: es => P_cons (part_ok hR ho e) (parts_ok hR ho es)
theorem join_ok {R : TR} (hR : ROk w G0 lv R) {t : Tc} (ho : StOk G0 st t) (es : List Expr) (pos : Pos) : SE w G0 lv st (.JoinedStr es pos) (joinD R t es) := by
  unfold joinD
  split
  · split
    · rename_i h; exact S_join (parts_ok hR ho _) h
    · exact E_stuck
  · exact E_stuck
theorem noArgs_of {a : Arguments} (h : isNoArgs a = true) : a = noArgs := by
  obtain ⟨a1, a2, a3, a4, a5, a6, a7⟩ := a
  cases a1
  case cons => exact no_true9 h
  cases a2
  case cons => exact no_true9 h
  cases a3
  case some => exact no_true9 h
  cases a4
  case cons => exact no_true9 h
  cases a5
  case cons => exact no_true9 h
  cases a6
  case some => exact no_true9 h
  cases a7
  case cons => exact no_true9 h
  rfl
theorem lam_ok (GD : Gd w p loose mean mg mb G0) {t : Tc} (ho : StOk G0 st t) (args : Arguments) (body : Expr) (sc : Scope) (pos : Pos) : SE w G0 lv st (.Lambda args body sc pos) (lamD t args body sc) := by
  unfold lamD
  split
  · rename_i h
    obtain rfl := noArgs_of h
    split
    · rename_i c P tid e
      refine xa2 (ho.tab _ _ _ e) fun h1 h2 => ?_
      exact S_lam GD h1 h2
    · exact E_stuck
  · exact E_stuck
theorem tests_ok {R : TR} (hR : ROk w G0 lv R) {t : Tc} (ho : StOk G0 st t) (ifs : List Expr) : SQ w G0 lv st ifs (testsD R t ifs) := by
  unfold testsD
  split
  · exact Q_nil
  · exact Q_one (hR.B st t _ ho)
  · exact fun a φ F H s Qc Ec ok R h => h.elim
theorem comp_ok (GD : Gd w p loose mean mg mb G0) {R : TR} (hR : ROk w G0 lv R) {t : Tc} (ho : StOk G0 st t) (elt : Expr) (gens : List Comprehension) (sc : Scope) (pos : Pos) : SE w G0 lv st (.ListComp elt gens sc pos) (compD R t elt gens sc) := by
  induction gens with
  | nil => exact E_stuck
  | cons g r =>
  obtain ⟨tg, it, ifs, n⟩ := g
  induction tg using PySem.Expr.casesOn <;> first | exact E_stuck | skip
  case Name x px =>
    induction n with
    | negSucc _ => exact E_stuck
    | ofNat n =>
    induction n with
    | succ _ => exact E_stuck
    | zero =>
    induction r with
    | cons _ _ => exact E_stuck
    | nil =>
    show SE w G0 lv st _ (if _ then _ else _)
    split
    · rename_i hh
      simp only [Bool.and_eq_true] at hh
      obtain ⟨⟨⟨h1, h2⟩, h3⟩, h4⟩ := hh
      simp only [scOk, Bool.and_eq_true] at h3
      obtain ⟨⟨⟨h5, h6⟩, h7⟩, h8⟩ := h3
      have ho' : StOk G0 (stC' st sc) ⟨relab sc t.sc, t.nh, true, none⟩ := ⟨congrArg (relab sc) ho.sc, ho.nh, rfl, fun _ _ _ e => by cases e⟩
      refine S_comp GD (by rw [ho.nh]; exact h2) (kn_KN h1) (beq_iff_eq.mp h5) (beq_iff_eq.mp h6) (fun y hy => ?_) (fun y hy e => ?_) (hR.E st t _ ho) (tests_ok hR ho' _) (hR.E _ _ _ ho') (set_fold h4)
      · have := List.all_eq_true.mp h7 y hy; simpa using this
      · have := List.all_eq_true.mp h8 y hy
        rw [e, if_pos (by decide)] at this
        exact beq_iff_eq.mp this
    · exact E_stuck
-- calls
theorem blt_ok {K : Kx} (hK : ScrOk G0 K.scr) (hl : 1 ≤ lv) {t : Tc} (ho : StOk G0 st t) {id : String} {D} (h : bltnD K t id = some D) : SOn w G0 lv st (fun vs => call (.builtin id) vs) D := by
  unfold bltnD at h
  split at h
  · rename_i e; subst e; obtain rfl := Option.some.inj h; exact O_altN O_len (O_lenG hK)
  · split at h
    · rename_i e; subst e; obtain rfl := Option.some.inj h; exact O_divmod
    · split at h
      · rename_i e; subst e; obtain rfl := Option.some.inj h; exact O_sorted
      · split at h
        · rename_i e; subst e
          split at h
          · rename_i hn; obtain rfl := Option.some.inj h; exact O_sum (by rw [ho.nh]; exact hn)
          · exact no_some9 h
        · split at h
          · rename_i e; subst e
            split at h
            · rename_i hn; obtain rfl := Option.some.inj h; exact O_altN (O_min (by rw [ho.nh]; exact hn)) (O_minP (by rw [ho.nh]; exact hn) hl)
            · exact no_some9 h
          · exact no_some9 h
theorem callF_ok (GD : Gd w p loose mean mg mb G0) {R : TR} (hR : ROk w G0 lv R) {t : Tc} (ho : StOk G0 st t) {x : Str} {xp pos : Pos} {a : Addr} {D : List AV → Hp → Res AV} {args : List Expr} (hs : args.all notStar = true) (hn : SE w G0 lv st (.Name x xp) (fun _ H => .ok (.glob a) H)) (hk : keepIn (hd.heap_39 w.params) (.ref a) = true) (hf : SOn w G0 lv st (fun vs => call (.ref a) vs) D) :
    SE w G0 lv st (.Call (.Name x xp) args [] pos) (callF R t D args) := by
  induction args with
  | nil => exact S_call0 GD hn hk hf fun _ => rfl
  | cons e es =>
    have hs' := Bool.and_eq_true_iff.mp hs
    exact S_call GD hn hk (args_ok (fun e => hR.E st t e ho) (e :: es)) hf (star_cons hs'.1) (fun _ => star_any hs'.2) fun _ => rfl
theorem bcall_ok (GD : Gd w p loose mean mg mb G0) {T : TB} (hT : TOk w T) {K : Kx} (hK : ScrOk G0 K.scr) (hl : 1 ≤ lv) {R : TR} (hR : ROk w G0 lv R) {t : Tc} (ho : StOk G0 st t) {x : Str} {xp pos : Pos} {id : String} {args : List Expr} (hs : args.all notStar = true) (hg : glob? T t x = some (.bltn id)) :
    SE w G0 lv st (.Call (.Name x xp) args [] pos) (match (generalizing := false) args, bltnD K t id with | a :: as, some D => eCall (argsD (R.E t) (a :: as)) D | _, _ => eX) := by
  refine xa5 (g_ok (pos := xp) GD hT ho hg) fun h1 h2 h3 h4 h5 => ?_
  split
  · rename_i a as D e
    have hs' := Bool.and_eq_true_iff.mp hs
    exact S_bcall (S_bltn GD (fun _ _ => rfl) h3 h4 h5 h1 h2) (args_ok (fun e => hR.E st t e ho) (a :: as)) (blt_ok hK hl ho e) (star_cons hs'.1) (fun _ => star_any hs'.2) fun _ => rfl
  · exact E_stuck
theorem tcall_ok (GD : Gd w p loose mean mg mb G0) {T : TB} (hT : TOk w T) {R : TR} (hR : ROk w G0 lv R) {t : Tc} (ho : StOk G0 st t) {x : Str} {xp pos : Pos} {id : String} {args : List Expr} (hs : args.all notStar = true) (hg : glob? T t x = some (.typ id)) :
    SE w G0 lv st (.Call (.Name x xp) args [] pos) (match (generalizing := false) args with | a :: as => if id = "range" then eCall (argsD (R.E t) (a :: as)) fRange else eX | [] => eX) := by
  refine xa5 (g_ok (pos := xp) GD hT ho hg) fun h1 h2 h3 h4 h5 => ?_
  split
  · rename_i a as
    have hs' := Bool.and_eq_true_iff.mp hs
    split
    · rename_i e
      subst e
      exact S_tcall (S_bltn GD (fun _ _ => rfl) h3 h4 h5 h1 h2) (args_ok (fun e => hR.E st t e ho) (a :: as)) O_range (star_cons hs'.1) (fun _ => star_any hs'.2) fun _ => rfl
    · exact E_stuck
  · exact E_stuck
theorem callN_ok (GD : Gd w p loose mean mg mb G0) {T : TB} (hT : TOk w T) {K : Kx} (hK : KOk w G0 lv K) {R : TR} (hR : ROk w G0 (lv + 1) R) {t : Tc} (ho : StOk G0 st t) (x : Str) (xp pos : Pos) (args : List Expr) (hs : args.all notStar = true) : SE w G0 (lv + 1) st (.Call (.Name x xp) args [] pos) (callN T K R t x args) := by
  unfold callN
  split
  · split
    · rename_i id e; exact bcall_ok GD hT hK.scr (Nat.succ_le_succ (Nat.zero_le _)) hR ho hs e
    · rename_i id e; exact tcall_ok GD hT hR ho hs e
    · exact E_stuck
  · rename_i hc
    have hcm : st.cm = false := by rw [ho.cm]; simpa using hc
    split
    · rename_i a e
      refine xa4 (g_ok (pos := xp) GD hT ho e) fun h1 h2 h3 h4 => ?_
      exact callF_ok GD hR ho hs (ref_ok GD h1 h2 h3) h4 (O_call GD (hK.call t.nh a) (fun q => by rw [ho.nh]; exact q) hcm)
    · rename_i C fI e
      obtain ⟨h1, h2, h3, h4, h5, h6, h7⟩ := g_ok (pos := xp) GD hT ho e
      exact callF_ok GD hR ho hs (ref_ok GD h1 h2 h3) h4 (O_new GD h5 h6 h7 (hK.call t.nh fI) (fun q => by rw [ho.nh]; exact q) hcm)
    · rename_i C fI e
      obtain ⟨h1, h2, h3, h4, h5, h6, h7, _⟩ := g_ok (pos := xp) GD hT ho e
      obtain ⟨nm, q, N, bs, bm, sn, sub, ab, col, dd, k0, k1, k2, k3, k5, hC, hb, _⟩ := h5.ex
      exact callF_ok GD hR ho hs (ref_ok GD h1 h2 h3) h4 (O_newX GD hC hb h6 h7 (hK.call t.nh fI) (fun q => by rw [ho.nh]; exact q) hcm)
    · rename_i id e; exact bcall_ok GD hT hK.scr (Nat.succ_le_succ (Nat.zero_le _)) hR ho hs e
    · rename_i id e; exact tcall_ok GD hT hR ho hs e
    · exact E_stuck
    · split
      · rename_i hh
        refine xa2 (Bool.and_eq_true_iff.mp hh) fun h1 h2 => ?_
        induction args with
        | cons _ _ => exact no_true9 h2
        | nil => exact S_callV GD (fun st' body hn hc => by have := hK.lam st' body hc; rw [hn, ho.nh] at this; exact this) hcm (name_ok GD hT ho x xp) fun _ => rfl
      · exact E_stuck
theorem mt_ok (GD : Gd w p loose mean mg mb G0) {T : TB} (hT : TOk w T) {K : Kx} (hK : KOk w G0 lv K) {t : Tc} (ho : StOk G0 st t) (hcm : st.cm = false) (m : Str) : MtAll w G0 (lv + 1) st m (mtD T K t m) := by
  unfold mtD
  rw [lookS_eq]
  split
  · rename_i l e
    have hl := hT.mt _ (lookup_memS e)
    clear e
    dsimp only at hl
    induction l with
    | nil => exact trivial
    | cons q r ih =>
      refine xa4 (hl q (.head _)) fun h1 h2 h3 h4 => ?_
      exact ⟨⟨h1, h2, h3, h4, O_call GD (hK.call t.nh q.2) (fun q => by rw [ho.nh]; exact q) hcm⟩, ih fun r hr => hl r (.tail _ hr)⟩
  · exact trivial
theorem meth_ok (GD : Gd w p loose mean mg mb G0) {T : TB} (hT : TOk w T) {K : Kx} (hK : KOk w G0 lv K) {R : TR} (hR : ROk w G0 (lv + 1) R) {t : Tc} (ho : StOk G0 st t) (o : Expr) (m : Str) (ap pos : Pos) (args : List Expr) (hs : args.all notStar = true) (hb : baseOk o = true) (hp : (ap.endLine == pos.line) = true) (hn : args.length < 30) :
    SE w G0 (lv + 1) st (.Call (.Attribute o m ap) args [] pos) (callM.meth T K R t o m args) := by
  unfold callM.meth
  have heq := meth_eq (x := m) (ap := ap) (pos := pos) (es := args) hb hp hs hn
  split
  · rename_i e
    obtain rfl := eq_of_beq e
    split
    · split
      · rename_i hst
        exact S_lm PySem.F.slot_list_append PySem.F.type_list_append (by split; exact O_appG; exact O_app) (hR.E st t o ho) (hR.E st t _ ho) (star_cons hst) (plOf o) heq
      · exact E_stuck
    · exact E_stuck
  · split
    · rename_i e
      obtain rfl := eq_of_beq e
      split
      · split
        · rename_i hst
          exact S_lm PySem.F.slot_list_pop PySem.F.type_list_pop O_pop (hR.E st t o ho) (hR.E st t _ ho) (star_cons hst) (plOf o) heq
        · exact E_stuck
      · exact E_stuck
    · split
      · rename_i e
        refine xa2 (Bool.and_eq_true_iff.mp e) fun e1 e2 => ?_
        obtain rfl := eq_of_beq e1
        split
        · rename_i a as
          have hs' := Bool.and_eq_true_iff.mp hs
          exact S_getZ (hR.E st t o ho) (args_ok (fun e => hR.E st t e ho) (a :: as)) (star_cons hs'.1) (fun _ => star_any hs'.2) (plOf o) heq
        · exact E_stuck
      · split
        · rename_i e
          refine xa2 (Bool.and_eq_true_iff.mp e) fun e1 e2 => ?_
          have hcm : st.cm = false := by rw [ho.cm]; simpa using e2
          split
          · exact S_meth0 GD (kn_KN e1) (mt_ok GD hT hK ho hcm m) (hR.E st t o ho) (plOf o) heq
          · rename_i a as
            have hs' := Bool.and_eq_true_iff.mp hs
            exact S_meth GD (kn_KN e1) (mt_ok GD hT hK ho hcm m) (hR.E st t o ho) (args_ok (fun e => hR.E st t e ho) (a :: as)) (star_cons hs'.1) (fun _ => star_any hs'.2) (plOf o) heq
        · exact E_stuck
theorem callM_ok (GD : Gd w p loose mean mg mb G0) {T : TB} (hT : TOk w T) {K : Kx} (hK : KOk w G0 lv K) {R : TR} (hR : ROk w G0 (lv + 1) R) {t : Tc} (ho : StOk G0 st t) (o : Expr) (m : Str) (ap pos : Pos) (args : List Expr) (hs : args.all notStar = true) :
    SE w G0 (lv + 1) st (.Call (.Attribute o m ap) args [] pos) (callM T K R t o m ap pos args) := by
  unfold callM
  split
  · exact E_stuck
  · rename_i hh
    have hh : (baseOk o && ap.endLine == pos.line && decide (args.length < 30)) = true := by simpa using hh
    simp only [Bool.and_eq_true, decide_eq_true_eq] at hh
    obtain ⟨⟨hb, hp⟩, hn⟩ := hh
    split
    · rename_i X xp
      split
      · rename_i id e
        split
        · rename_i h
          simp only [Bool.and_eq_true, decide_eq_true_eq, Bool.not_eq_true'] at h
          obtain ⟨⟨h1, h2⟩, h3⟩ := h
          subst h1
          obtain rfl := eq_of_beq h2
          split
          · rename_i a as
            refine xa5 (g_ok (pos := xp) GD hT ho e) fun g1 g2 g3 g4 g5 => ?_
            have hs' := Bool.and_eq_true_iff.mp hs
            exact S_vinit GD (S_bltn GD (fun _ _ => rfl) g3 g4 g5 g1 g2) hT.vi (args_ok (fun e => hR.E st t e ho) (a :: as)) (O_vinit GD hT.xs) (star_cons hs'.1) (fun _ => star_any hs'.2) (plOf _) (meth_eq hb hp hs hn)
          · exact E_stuck
        · exact E_stuck
      · rename_i C fI e
        split
        · rename_i h
          simp only [Bool.and_eq_true, Bool.not_eq_true'] at h
          refine xa2 (h) fun h2 h3 => ?_
          obtain rfl := eq_of_beq h2
          split
          · rename_i a as
            obtain ⟨g1, g2, g3, g4, g5, g6, g7, g8, ⟨mc, g9, g10⟩, g11⟩ := g_ok (pos := xp) GD hT ho e
            have hs' := Bool.and_eq_true_iff.mp hs
            exact S_cinit GD (ref_ok GD g1 g2 g3) g8 g9 g10 g11 (args_ok (fun e => hR.E st t e ho) (a :: as)) (O_call GD (hK.call t.nh fI) (fun q => by rw [ho.nh]; exact q) (by rw [ho.cm]; exact h3)) (star_cons hs'.1) (fun _ => star_any hs'.2) (plOf _) (meth_eq hb hp hs hn)
          · exact E_stuck
        · exact E_stuck
      · exact E_stuck
      · exact meth_ok GD hT hK hR ho _ m ap pos args hs hb hp hn
    · exact meth_ok GD hT hK hR ho _ m ap pos args hs hb hp hn
theorem callD_ok (GD : Gd w p loose mean mg mb G0) {T : TB} (hT : TOk w T) {K : Kx} (hK : KOk w G0 lv K) {R : TR} (hR : ROk w G0 (lv + 1) R) {t : Tc} (ho : StOk G0 st t) (f : Expr) (args : List Expr) (pos : Pos) : SE w G0 (lv + 1) st (.Call f args [] pos) (callD T K R t f args pos) := by
  unfold callD
  split
  · rename_i hs
    induction f using PySem.Expr.casesOn <;> first | exact E_stuck | skip
    · exact callM_ok GD hT hK hR ho _ _ _ pos args hs
    · exact callN_ok GD hT hK hR ho _ _ pos args hs
  · exact E_stuck
end
end Mine
end
-- M41
section
open PySem PySem.W PyProof.Rows PySem.Calls PySem.Spec
set_option Elab.async false
set_option linter.all false
namespace Mine
set_option maxRecDepth 100000
section
variable {w : World} {p : Program} {loose : List Str} {mean : ExcName → Option Value} {mg mb : Str → Option Value} {G0 : Heap} {lv : Nat} {st : Sta}
theorem tgts_ok {R : TR} (hR : ROk w G0 lv R) {t : Tc} (ho : StOk G0 st t) : ∀ es {f}, tgtsD R t es = some f → ∃ ts : Env → List (Value → Sem Unit), SVs w G0 lv st ts f ∧ (∀ env : Env, assignEach es env = (ts env).map fun t => (false, t)) ∧ ∀ env : Env, (ts env).length = es.length := by
  intro es
  induction es with
  | nil => intro f e; obtain rfl := Option.some.inj e; exact ⟨_, V_nil, fun _ => rfl, fun _ => rfl⟩
  | cons e es ih =>
    intro f h
    unfold tgtsD at h
    split at h
    · rename_i f1 g e1 e2
      obtain rfl := Option.some.inj h
      refine xe13 (ih e2) fun ts h1 h2 h3 => ?_
      induction e using PySem.Expr.casesOn <;> first | exact no_some9 e1 | skip
      · change (if _ then _ else _) = _ at e1
        split at e1
        · obtain rfl := Option.some.inj e1
          exact ⟨_, V_cons (V_sub (hR.E st t _ ho) (hR.E st t _ ho)) h1, fun env => congrArg (_ :: ·) (h2 env), fun env => congrArg (· + 1) (h3 env)⟩
        · exact no_some9 e1
      · exact ⟨_, V_cons (V_name (stN_ok ho e1)) h1, fun env => congrArg (_ :: ·) (h2 env), fun env => congrArg (· + 1) (h3 env)⟩
    · exact no_some9 h
theorem binds_ok {t : Tc} (ho : StOk G0 st t) : ∀ xs {f}, bindsD t xs = some f → SVs w G0 lv st (fun env => xs.map fun n => bindName env n) f := by
  intro xs
  induction xs with
  | nil => intro f e; obtain rfl := Option.some.inj e; exact V_nil
  | cons x xs ih =>
    intro f h
    unfold bindsD at h
    split at h
    · rename_i f1 g e1 e2
      obtain rfl := Option.some.inj h
      exact V_cons (V_bind (stN_ok ho e1)) (ih e2)
    · exact no_some9 h
theorem tupS_ok {R : TR} (hR : ROk w G0 lv R) {t : Tc} (ho : StOk G0 st t) (elts : List Expr) (k : Nat) (tp : Pos) (v : Expr) (pos : Pos) : SS w G0 lv st (.Assign [.Tuple elts k tp] v pos) (tupS R t elts k tp v pos) := by
  unfold tupS
  split
  · rename_i hh
    refine xa2 (Bool.and_eq_true_iff.mp hh) fun h1 h2 => ?_
    have hnh : st.nh = true := by rw [ho.nh]; exact h1
    have hs : ∀ a : Act, swapsWithSole [.Tuple elts k tp] v pos.line (a.env st) = pure false := fun a => by
      have : swapsWithSole [.Tuple elts k tp] v pos.line (a.env st) = swapsWithSole [.Tuple elts k tp] v pos.line (dEnv t.sc) := by rw [← ho.sc]; rfl
      rw [this]
      unfold noSole at h2
      split at h2
      · rename_i e; exact e
      · exact no_true9 h2
    have hw : ∀ a : Act, swappedStores [.Tuple elts k tp] v (a.env st) = swappedStores [.Tuple elts k tp] v (dEnv t.sc) := fun a => by rw [← ho.sc]; rfl
    split
    · rename_i e
      split
      · rename_i f e2
        refine xe13 (tgts_ok hR ho _ e2) fun ts h3 h4 h5 => ?_
        exact T_unp hnh (hR.E st t v ho) h3 h4 h5 hs fun a => (hw a).trans e
      · exact T_stuck
    · rename_i names e
      split
      · rename_i f e2
        exact T_swp hnh (hR.E st t v ho) (binds_ok ho _ e2) (fun _ => rfl) hs fun a => (hw a).trans e
      · exact T_stuck
    · exact T_stuck
  · exact T_stuck
-- clauses
theorem sel_ok (GD : Gd w p loose mean mg mb G0) {T : TB} (hT : TOk w T) {t : Tc} (ho : StOk G0 st t) {ty : Expr} {l : List (Addr × Bool)} (h : selD T t ty = some l) : SX w G0 lv st.hd ty (sel l) := by
  have ho' := ho.hd
  induction ty using PySem.Expr.casesOn <;> first | exact no_some9 h | skip
  case Name X xp =>
    unfold selD at h
    dsimp only at h
    split at h
    · rename_i C fI e
      refine xa3 (g_ok (t := t.hd) (pos := xp) GD hT ho' e) fun h1 h2 h3 => ?_
      exact X_one GD (ref_ok GD h1 h2 h3.1) fun q hq => hT.ex _ (lookup_memS h) q hq
    · exact no_some9 h
  case Tuple es k kp =>
    cases es with
    | nil => exact no_some9 h
    | cons e r =>
    cases e <;> first | exact no_some9 h | skip
    case Name X xp =>
    cases r with
    | nil => exact no_some9 h
    | cons e r =>
    cases e <;> first | exact no_some9 h | skip
    case Name Y yp =>
    cases r with
    | cons _ _ => exact no_some9 h
    | nil =>
    unfold selD at h
    dsimp only at h
    split at h
    · rename_i C fI C' fI' e e'
      split at h
      · rename_i l1 l2 e1 e2
        obtain rfl := Option.some.inj h
        refine xa3 (g_ok (t := t.hd) (pos := xp) GD hT ho' e) fun h1 h2 h3 => ?_
        refine xa3 (g_ok (t := t.hd) (pos := yp) GD hT ho' e') fun k1 k2 k3 => ?_
        refine X_two GD (ref_ok GD h1 h2 h3.1) (ref_ok GD k1 k2 k3.1) fun q hq => ?_
        refine xe12 (List.mem_filterMap.mp hq) fun r hr hq => ?_
        induction e3 : l2.lookup r.1 with
        | none => rw [e3] at hq; exact no_some9 hq
        | some b =>
          rw [e3] at hq
          obtain rfl := Option.some.inj hq
          show exmAny (hd.heap_39 w.params) (.ref r.1) [.ref C, .ref C'] = some (r.2 || b)
          unfold exmAny exmAny exmAny
          rw [hT.ex _ (lookup_memS e1) r hr, hT.ex _ (lookup_memS e2) (r.1, b) (lookup_memS e3)]
          simp
      · exact no_some9 h
    · exact no_some9 h
theorem hand_ok (GD : Gd w p loose mean mg mb G0) {T : TB} (hT : TOk w T) {R : TR} (hR : ROk w G0 lv R) {t : Tc} (ho : StOk G0 st t) : ∀ hs, SH w G0 lv st hs (handD T R t hs) := by
  intro hs
  induction hs with
  | nil => exact H_nil
  | cons h rest ih =>
    obtain ⟨ty, nm, bd, hp⟩ := h
    induction ty with
    | none => exact H_stuck
    | some ty =>
    induction nm with
    | some n =>
      induction bd with
      | nil => exact H_stuck
      | cons b bs =>
      show SH w G0 lv st _ (if _ then _ else _)
      split
      · rename_i hk
        refine xa2 (Bool.and_eq_true_iff.mp hk) fun h1 h2 => ?_
        induction e : selD T t ty with
        | some l => exact H_as (kn_KN h1) (by rw [ho.sc]; exact eq_of_beq h2) (sel_ok GD hT ho e) (stmts_ok (fun s => hR.S st.hd t.hd s ho.hd) _) ih
        | none => exact H_stuck
      · exact H_stuck
    | none =>
      induction bd with
      | nil => exact H_stuck
      | cons b bs =>
      have gen : SH w G0 lv st (.ExceptHandler (some ty) none (b :: bs) hp :: rest) (match selD T t ty with | some l => hC (sel l) (stmtsD (R.S t.hd) (b :: bs)) (handD T R t rest) | none => hN') := by
        induction e : selD T t ty with
        | some l => exact H_cons (sel_ok GD hT ho e) (stmts_ok (fun s => hR.S st.hd t.hd s ho.hd) _) ih
        | none => exact H_stuck
      induction b using PySem.Stmt.casesOn <;> first | exact gen | skip
      case Raise x c rp =>
      induction x with
      | none => exact gen
      | some x =>
      induction c with
      | none => exact gen
      | some c =>
      induction c using PySem.Expr.casesOn <;> first | exact gen | skip
      case Constant k kk kp =>
      induction k <;> first | exact gen | skip
      case none =>
      induction bs with
      | cons _ _ => exact gen
      | nil =>
        show SH w G0 lv st _ (match selD T t ty with | some l => Mine.hR T.xs (sel l) (R.E t.hd x) (handD T R t rest) | none => hN')
        induction e : selD T t ty with
        | some l => exact H_raise GD (fun C hC => (hT.xs C hC).xc) (sel_ok GD hT ho e) (hR.E st.hd t.hd _ ho.hd) ih fun _ => rfl
        | none => exact H_stuck
theorem isShl_eq {op : Operator} (h : isShl op = true) : op = .LShift := by induction op <;> first | rfl | cases h
theorem isAdd_eq {op : Operator} (h : isAdd op = true) : op = .Add := by induction op <;> first | rfl | cases h
theorem binG_ok (l : Expr) (op : Operator) : SO2 w G0 lv st (binaryOp op) (binG l op) := by
  unfold binG
  split
  · rename_i h
    have h2 := isShl_eq (Bool.and_eq_true_iff.mp h).2
    rw [h2]; exact O_shlG
  · split
    · rename_i h
      have h2 := isAdd_eq (Bool.and_eq_true_iff.mp h).2
      rw [h2]; exact O_addG
    · exact bin_ok op
-- one step
theorem stepE_ok (GD : Gd w p loose mean mg mb G0) {T : TB} (hT : TOk w T) {K : Kx} (hK : KOk w G0 lv K) {R : TR} (hR : ROk w G0 (lv + 1) R) {t : Tc} (ho : StOk G0 st t) (e : Expr) : SE w G0 (lv + 1) st e (stepE T K R t e) := by
  have hl : 1 ≤ lv + 1 := Nat.succ_le_succ (Nat.zero_le _)
  induction e using PySem.Expr.casesOn <;> first | exact E_stuck | skip
  case Constant c k pos =>
    induction c <;> first | exact E_stuck | exact S_int | exact S_bool | exact S_none | skip
    show SE _ _ _ _ _ (if _ then _ else _)
    split
    · rename_i h; exact S_str (kn_KN h)
    · exact S_txt
  case Name x pos => exact name_ok GD hT ho x pos
  case BinOp l op r pos => exact S_bin (binG_ok l op) (hR.E st t l ho) (hR.E st t r ho)
  case UnaryOp op x pos => exact S_un (un_ok op) (hR.E st t x ho)
  case BoolOp op vs pos =>
    cases op
    · exact and_ok (fun e => hR.E st t e ho) vs
    · exact E_stuck
  case Compare l ops rs pos =>
    induction ops with
    | nil => exact E_stuck
    | cons op ops =>
    induction ops with
    | cons _ _ => exact E_stuck
    | nil =>
    induction rs with
    | nil => exact E_stuck
    | cons r rs =>
    induction rs with
    | cons _ _ => exact E_stuck
    | nil =>
    show SE _ _ _ _ _ (if _ then _ else _)
    split
    · rename_i h; exact S_cmp (cmp_ok GD hT hl _) (hR.E st t l ho) (hR.E st t _ ho) (set_marks h)
    · exact E_stuck
  case IfExp c b o pos => exact S_if (hR.B st t c ho) (hR.E st t b ho) (hR.E st t o ho)
  case Attribute o x pos => exact attr_ok GD hT hR ho o x pos
  case Tuple es k pos => exact S_tup (args_ok (fun e => hR.E st t e ho) es)
  case List es pos => exact S_list (args_ok (fun e => hR.E st t e ho) es)
  case Subscript v i pos => exact sub_ok hK.scr hR ho v i pos
  case Dict ks vs pos => exact dict_ok GD hR ho ks vs pos
  case JoinedStr es pos => exact join_ok hR ho es pos
  case Lambda args body sc pos => exact lam_ok GD ho args body sc pos
  case ListComp elt gens sc pos => exact E_guard (comp_ok GD hR ho elt gens sc pos)
  case Call f args kws pos =>
    show SE _ _ _ _ _ (callKw T K R t f args kws pos)
    unfold callKw
    split
    · rename_i h
      obtain rfl := List.isEmpty_iff.mp h
      exact callD_ok GD hT hK hR ho f args pos
    · exact E_stuck
theorem stepB_ok (GD : Gd w p loose mean mg mb G0) {T : TB} (hT : TOk w T) (hl : 1 ≤ lv) {K : Kx} {R : TR} (hR : ROk w G0 lv R) {t : Tc} (ho : StOk G0 st t) (e : Expr) : SB w G0 lv st e (stepB T K R t e) := by
  have hE := fun e => hR.E st t e ho
  have hB := fun e => hR.B st t e ho
  induction e using PySem.Expr.casesOn <;> first | exact B_plain (hE _) | skip
  case BinOp l op r pos => exact B_guard (B_plain (hE _))
  case Compare l ops rs pos =>
    show SB _ _ _ _ _ (inB _ _ (R.E t) l ops rs (gB _ (cmpB T (R.E t) l ops rs)))
    suffices hq : SB w G0 lv st (.Compare l ops rs pos) (gB (opsB K.orc.bp pos.line ops) (cmpB T (R.E t) l ops rs)) by
      unfold inB
      split
      · rename_i hi
        obtain rfl := isIn1_eq hi
        split
        · split
          · rename_i hs; exact B_cmp O_inG (hE l) (hE _) (set_marks hs)
          · exact hq
        · exact hq
      · exact hq
    refine B_guard ?_
    rcases ops with _ | ⟨op, _ | ⟨op', ops⟩⟩
    · exact B_stuck
    · rcases rs with _ | ⟨r, _ | ⟨r', rs⟩⟩
      · exact B_stuck
      · show SB _ _ _ _ _ (if _ then _ else _)
        split
        · rename_i h; exact B_cmp (cmp_ok GD hT hl _) (hE l) (hE _) (set_marks h)
        · exact B_stuck
      · exact B_stuck
    · rcases rs with _ | ⟨r, _ | ⟨r', rs⟩⟩
      · exact B_stuck
      · exact B_stuck
      · show SB _ _ _ _ _ (if _ then _ else _)
        split
        · rename_i h; exact B_chain (hE l) (chain_ok GD hT hl hE _ _) h
        · exact B_stuck
  case UnaryOp op x pos =>
    induction op <;> first | exact B_stuck | exact B_not (hB x)
  case BoolOp op vs pos =>
    cases op
    · exact B_bool (andB_ok hB vs)
    · exact B_bool (orB_ok hB vs)
  case IfExp c b o pos => exact B_stuck
theorem stepS_ok (GD : Gd w p loose mean mg mb G0) {T : TB} (hT : TOk w T) {R : TR} (hR : ROk w G0 lv R) {t : Tc} (ho : StOk G0 st t) (s : Stmt) : SS w G0 lv st s (stepS T R t s) := by
  have hE := fun e => hR.E st t e ho
  have hS := stmts_ok fun s => hR.S st t s ho
  have hsw : ∀ {e : Expr} {tg : Option Expr} {n : Nat}, noSwap t.sc e tg n = true → ∀ a : Act, swapsWith e tg n (a.env st) = pure false := fun h a => swap_ok (by rw [ho.sc]; exact h)
  induction s using PySem.Stmt.casesOn <;> first | exact T_stuck | skip
  case Return v pos =>
    cases v
    · exact T_ret0
    · exact T_ret (hE _)
  case Expr e pos =>
    show SS _ _ _ _ _ (exprD R t e pos.line)
    unfold exprD
    split
    · rename_i h; exact T_expr (hE e) (hsw h)
    · exact T_stuck
  case If c b o pos => exact T_if (hR.B st t c ho) (hS b) (hS o)
  case Assign targets e pos =>
    induction targets with
    | nil => exact T_stuck
    | cons tg r =>
    induction r with
    | cons _ _ => induction tg using PySem.Expr.casesOn <;> exact T_stuck
    | nil =>
    induction tg using PySem.Expr.casesOn <;> first | exact T_stuck | skip
    · show SS _ _ _ _ _ (if _ then _ else _)
      split
      · rename_i h
        refine xa2 (Bool.and_eq_true_iff.mp h) fun h1 h2 => ?_
        exact T_attr (O_altU (O_setA GD (kn_KN h2) fun C hC => (aCls_ok hT C hC).2) (O_setX GD (kn_KN h2) fun C hC => ⟨(xCls_ok hT C hC).1.1, (xCls_ok hT C hC).2⟩)) (hE e) (hE _) (hsw h1)
      · exact T_stuck
    · show SS _ _ _ _ _ (if _ then _ else _)
      split
      · rename_i h
        refine xa2 (Bool.and_eq_true_iff.mp h) fun h1 h2 => ?_
        split
        · exact T_sub O_setZ (hE e) (hE _) (hE _) (hsw h1)
        · exact T_sub O_setI (hE e) (hE _) (hE _) (hsw h1)
      · exact T_stuck
    · show SS _ _ _ _ _ (if _ then _ else _)
      split
      · rename_i h
        split
        · rename_i f e1; exact T_name (stN_ok ho e1) (hE e) (hsw h)
        · exact T_stuck
      · exact T_stuck
    · exact tupS_ok hR ho _ _ _ e pos
  case For tgt it b o pos =>
    induction tgt using PySem.Expr.casesOn <;> first | exact T_stuck | skip
    case Name x xp =>
    induction o with
    | cons _ _ => exact T_stuck
    | nil =>
    show SS _ _ _ _ _ (if _ then _ else _)
    split
    · rename_i h
      refine xa2 (Bool.and_eq_true_iff.mp h) fun h1 h2 => ?_
      split
      · rename_i f e1; exact T_for (by rw [ho.nh]; exact h1) (stN_ok ho e1) (hE it) (hS b) (fun a x => set_fold h2 _ _) fun _ _ => rfl
      · exact T_stuck
    · exact T_stuck
  case Raise x c pos =>
    show SS _ _ _ _ _ (raiD R t T x c)
    unfold raiD
    split
    · split
      · rename_i h; exact T_raise GD (by rw [ho.nh]; exact h) (fun C hC => (hT.xs C hC).xc) (hE _) fun _ => rfl
      · exact T_stuck
    · exact T_stuck
  case Try b hs o f pos =>
    induction hs with
    | nil => exact T_stuck
    | cons h hs =>
    induction o with
    | cons _ _ => exact T_stuck
    | nil =>
    induction f with
    | cons _ _ => exact T_stuck
    | nil =>
    show SS _ _ _ _ _ (if _ then _ else _)
    split
    · exact T_stuck
    · rename_i h; exact T_try GD (by rw [ho.cm]; simpa using h) (hS b) (hand_ok GD hT hR ho _)
theorem tr_ok (GD : Gd w p loose mean mg mb G0) {T : TB} (hT : TOk w T) {K : Kx} (hK : KOk w G0 lv K) : ∀ n, ROk w G0 (lv + 1) (tr T K n)
  | 0 => ⟨fun _ _ _ _ => E_stuck, fun _ _ _ _ => B_stuck, fun _ _ _ _ => T_stuck⟩
  | n + 1 => have ih := tr_ok GD hT hK n
    ⟨fun _ _ e ho => stepE_ok GD hT hK ih ho e, fun _ _ e ho => stepB_ok GD hT (Nat.succ_le_succ (Nat.zero_le _)) ih ho e, fun _ _ s ho => stepS_ok GD hT ih ho s⟩
end
end Mine
end
-- M42
section
open PySem PySem.W PyProof.Rows PySem.Calls PySem.Spec
set_option Elab.async false
set_option linter.all false
namespace Mine
set_option maxRecDepth 100000
-- the written functions
noncomputable def fd (w : World) (f : Addr) : FuncData := match (hd.heap_39 w.params).lookup f with
  | some ⟨_, _, .func F, _⟩ => F
  | _ => default
noncomputable def bd (w : World) (f : Addr) : List Stmt := match (fd w f).body with
  | .stmts b => b
  | _ => []
noncomputable def pnames (w : World) (f : Addr) : List Str := (fd w f).params.args.map (·.arg)
noncomputable def dflt (w : World) (f : Addr) : List Value := match (fd w f).defaults with
  | .ref t => (match (hd.heap_39 w.params).lookup t with | some ⟨_, _, .seq l _, _⟩ => l.toList | _ => [])
  | _ => []
noncomputable def xval (w : World) (f : Addr) (n : Nat) : List (Str × Value) := ((pnames w f).drop n).zip ((dflt w f).drop ((dflt w f).length - ((pnames w f).length - n)))
noncomputable def xav (q : Str × Value) : Nat × AV := (nc q.1, match q.2 with | .int i _ => .int i | _ => .none)
noncomputable def isI : Value → Bool
  | .int _ _ => true
  | _ => false
noncomputable def fcells (w : World) (f : Addr) : List (Str × Addr) := cellsFrom 0 (fd w f).scope.names []
noncomputable abbrev Tab := Option (Addr × Addr × Nat)
noncomputable def fnK (w : World) (T : TB) (K : Kx) (nh : Bool) (q : Addr × Nat × Tab) : List AV → Hp → Res AV :=
  fnD (((pnames w q.1).take q.2.1).map nc) ((xval w q.1 q.2.1).map xav) ((fcells w q.1).map fun c => nc c.1) (stmtsD ((tr T K 40).S ⟨(fd w q.1).scope, nh, false, q.2.2⟩) (bd w q.1))
noncomputable def fok (w : World) (f : Addr) (n : Nat) : Bool :=
  ((pnames w f).take n).all kn && (xval w f n).all (fun q => kn q.1 && isI q.2) && decide (((pnames w f).take n ++ (xval w f n).map (·.1)).Nodup) &&
  (((pnames w f).take n ++ (xval w f n).map (·.1)).all fun y => (fd w f).scope.names.lookup y == some .local || (fd w f).scope.names.lookup y == some .cell) &&
  (fcells w f).all (fun q => kn q.1) && ((fcells w f).all fun q => (fd w f).scope.names.lookup q.1 == some .cell) && decide (((fcells w f).map (·.1)).Nodup) &&
  !(fd w f).scope.isCoroutine && !(fd w f).scope.isGenerator && (fd w f).scope.kind == .function
/-- the binder, cut at the defaults -/
noncomputable def bk (F : FuncData) (vs : List Value) : { k : Option (Array Value) → Sem (List (Str × Value)) // bindArgs F ⟨vs, []⟩ = seqItems? F.defaults >>= k } := ⟨_, rfl⟩
theorem all2_map {α β γ : Type} {R : α → β → Prop} {f : γ → α} {g : γ → β} : ∀ {l : List γ}, (∀ x ∈ l, R (f x) (g x)) → All2 R (l.map f) (l.map g)
  | [], _ => .nil
  | x :: l, h => .cons (h x (.head _)) (all2_map fun y hy => h y (.tail _ hy))
theorem all2_kn {l : List Str} (h : l.all kn = true) : All2 KN (l.map nc) l := by
  have := all2_map (R := KN) (f := nc) (g := id) (l := l) fun x hx => kn_KN (List.all_eq_true.mp h x hx)
  rwa [List.map_id] at this
section
variable {w : World} {p : Program} {loose : List Str} {mean : ExcName → Option Value} {mg mb : Str → Option Value} {G0 : Heap} {lv : Nat}
theorem bind_D {s : Shared} {f t : Addr} {vs : List Value} {oc : Value} {od : Option Addr} {items : Array Value} {n : Nat} {sl : Array (Option Value)} {binds : List (Str × Value)} (X : (hd.heap_39 w.params).In s.heap) (hdf : (fd w f).defaults = .ref t) (ho : (hd.heap_39 w.params).lookup t = some ⟨oc, od, .seq items n, sl⟩)
    (h : (bk (fd w f) vs).1 (some items) = pure binds) : BindsTo s (fd w f) ⟨vs, []⟩ binds := binds_K X hdf ho rfl (bk (fd w f) vs).2 h
theorem bind_N {s : Shared} {f : Addr} {vs : List Value} {binds : List (Str × Value)} (h : bindArgs (fd w f) ⟨vs, []⟩ = pure binds) : BindsTo s (fd w f) ⟨vs, []⟩ binds := BindsTo.of_eq h
/-- what is to be known of a written function -/
structure FOk (w : World) (G0 : Heap) (f : Addr) (n : Nat) (tb : Tab) : Prop where
  ho : ∃ oc od osl, (hd.heap_39 w.params).lookup f = some ⟨oc, od, .func (fnOf (fd w f).name (fd w f).qualname (fd w f).params (bd w f) (fd w f).scope (fd w f).defaults (fd w f).kwdefaults (fd w f).doc (fd w f).pyModule (fd w f).annotations (fd w f).code (fd w f).closureTuple), osl⟩
  hcd : codeIn (hd.heap_39 w.params) (fd w f).code (fd w f).qualname = true
  ok : fok w f n = true
  hb : ∀ vs : List Value, vs.length = n → ∀ s : Shared, (hd.heap_39 w.params).In s.heap → BindsTo s (fd w f) ⟨vs, []⟩ (((pnames w f).take n).zip vs ++ xval w f n)
  hn : Nat.ble n (pnames w f).length = true
  tab : ∀ c P tid, tb = some (c, P, tid) → (fd w f).code = .ref c ∧ CodeHd G0 c P
theorem isI_eq {v : Value} (h : isI v = true) : ∃ i t, v = .int i t := by
  induction v <;> first | exact ⟨_, _, rfl⟩ | cases h
theorem SF_gen (GD : Gd w p loose mean mg mb G0) {T : TB} (hT : TOk w T) {K : Kx} (hK : KOk w G0 lv K) {q : Addr × Nat × Tab} (h : FOk w G0 q.1 q.2.1 q.2.2) (nh : Bool) : SF w G0 (lv + 2) nh (.ref q.1) (fnK w T K nh q) := by
  refine xe3 (h.ho) fun oc od osl ho => ?_
  have ok := h.ok
  unfold fok at ok
  simp only [Bool.and_eq_true, decide_eq_true_eq, Bool.not_eq_true'] at ok
  obtain ⟨⟨⟨⟨⟨⟨⟨⟨⟨o1, o2⟩, o3⟩, o4⟩, o5⟩, o6⟩, o7⟩, o8⟩, o9⟩, o10⟩ := ok
  have hfd : fnOf (fd w q.1).name (fd w q.1).qualname (fd w q.1).params (bd w q.1) (fd w q.1).scope (fd w q.1).defaults (fd w q.1).kwdefaults (fd w q.1).doc (fd w q.1).pyModule (fd w q.1).annotations (fd w q.1).code (fd w q.1).closureTuple = fd w q.1 := by
    have e : fd w q.1 = fnOf (fd w q.1).name (fd w q.1).qualname (fd w q.1).params (bd w q.1) (fd w q.1).scope (fd w q.1).defaults (fd w q.1).kwdefaults (fd w q.1).doc (fd w q.1).pyModule (fd w q.1).annotations (fd w q.1).code (fd w q.1).closureTuple := by
      conv => lhs; unfold fd; rw [ho]
    exact e.symm
  refine SF_intro GD ho h.hcd ?_ (all2_kn o1) ?_ o3 o4 ?_ o6 o7 (stmts_ok (fun s => (tr_ok GD hT hK 40).S _ _ s ⟨rfl, rfl, rfl, h.tab⟩) _) o8 o9 (eq_of_beq o10)
  · intro vs hl s X
    rw [hfd]
    refine h.hb vs ?_ s X
    rw [hl, List.length_take]
    exact Nat.min_eq_left (Nat.le_of_ble_eq_true h.hn)
  · intro φ n
    have := all2_map (R := BR φ n) (f := xav) (g := id) (l := xval w q.1 q.2.1) fun x hx => by
      have := List.all_eq_true.mp o2 x hx
      refine xa2 (Bool.and_eq_true_iff.mp this) fun h1 h2 => ?_
      refine xe2 (isI_eq h2) fun i t e => ?_
      refine ⟨kn_KN h1, ?_⟩
      show VR φ n (match x.2 with | .int i _ => AV.int i | _ => .none) x.2
      rw [e]
      exact ⟨t, rfl⟩
    rwa [List.map_id] at this
  · have := all2_map (R := fun (c : Nat) (q : Str × Addr) => KN c q.1) (f := fun c : Str × Addr => nc c.1) (g := id) (l := fcells w q.1) fun x hx => kn_KN (List.all_eq_true.mp o5 x hx)
    rwa [List.map_id] at this
end
-- all the callees
noncomputable def callK (w : World) (T : TB) (K : Kx) (nh : Bool) (f : Addr) (l : List (Addr × Nat × Tab)) : List AV → Hp → Res AV := List.rec (motive := fun _ => List AV → Hp → Res AV) (fun _ _ => .stuck) (fun q _ ih => Bool.rec (motive := fun _ => List AV → Hp → Res AV) ih (fnK w T K nh q) (Nat.beq f q.1)) l
section
variable {w : World} {p : Program} {loose : List Str} {mean : ExcName → Option Value} {mg mb : Str → Option Value} {G0 : Heap} {lv : Nat}
theorem callK_ok (GD : Gd w p loose mean mg mb G0) {T : TB} (hT : TOk w T) {K : Kx} (hK : KOk w G0 lv K) (nh : Bool) (f : Addr) : ∀ {FT : List (Addr × Nat × Tab)}, (∀ q ∈ FT, FOk w G0 q.1 q.2.1 q.2.2) → SF w G0 (lv + 2) nh (.ref f) (callK w T K nh f FT)
  | [], _ => fun ks A outer fs s φ H news R xs vs B hx hp => hp.elim
  | q :: l, h => by
    show SF w G0 (lv + 2) nh (.ref f) (Bool.rec (motive := fun _ => List AV → Hp → Res AV) (callK w T K nh f l) (fnK w T K nh q) (Nat.beq f q.1))
    cases e : Nat.beq f q.1 with
    | true =>
      rw [Nat.eq_of_beq_eq_true e]
      exact SF_gen GD hT hK (h q (.head _)) nh
    | false => exact callK_ok GD hT hK nh f fun q hq => h q (.tail _ hq)
end
end Mine
end
-- M43
section
open PySem PySem.W PyProof.Rows PySem.Calls PySem.Spec
set_option Elab.async false
set_option linter.all false
namespace Mine
set_option maxRecDepth 100000
set_option maxHeartbeats 4000000
example : (PySem.Challenge.rw_nu0095_01.Holds) ∨ (∀ P, hd.heap_39 P = hd.heap_39 P) := by k_fill; right; intro; rfl
theorem fmn {α : Type} {P : α → Prop} : ∀ x ∈ ([] : List α), P x := fun _ h => absurd h List.not_mem_nil
theorem fmc {α : Type} {P : α → Prop} {a : α} {l : List α} (h : P a) (t : ∀ x ∈ l, P x) : ∀ x ∈ a :: l, P x := List.forall_mem_cons.mpr ⟨h, t⟩
variable (w : World)
noncomputable def each {α β : Type} (f : α → β) : List α → List β
  | [] => []
  | x :: l => f x :: each f l
theorem each_map {α β : Type} {f g : α → β} {l : List α} (h : each f l = l.map g) : ∀ x ∈ l, f x = g x := by
  induction l with
  | nil => exact fun _ h => nomatch h
  | cons x l ih =>
    have h : f x :: each f l = g x :: l.map g := h
    refine xa2 (List.cons.inj h) fun h1 h2 => ?_
    intro y hy
    rcases List.mem_cons.mp hy with rfl | hy
    · exact h1
    · exact ih h2 y hy
theorem xd_39 : XD w 39 := ⟨⟨_, _, _, _, _, _, _, _, _, _, _, _, _, _, _, by k_is, by decide, by decide⟩, by k_is, by k_is⟩
theorem xd_52 : XD w 52 := ⟨⟨_, _, _, _, _, _, _, _, _, _, _, _, _, _, _, by k_is, by decide, by decide⟩, by k_is, by k_is⟩
theorem xd_71 : XD w 71 := ⟨⟨_, _, _, _, _, _, _, _, _, _, _, _, _, _, _, by k_is, by decide, by decide⟩, by k_is, by k_is⟩
theorem xd_91 : XD w 91 := ⟨⟨_, _, _, _, _, _, _, _, _, _, _, _, _, _, _, by k_is, by decide, by decide⟩, by k_is, by k_is⟩
noncomputable def Tg : List (Str × GK) := [(("BadAddress" : Str), .xcls 71 68), (("BadArgument" : Str), .xcls 52 36), (("BoardError" : Str), .xcls 39 36), (("Bus" : Str), .cls 555 508), (("LONG" : Str), .int 18446744073709551615), (("MASK" : Str), .int 4294967295), (("Memory" : Str), .cls 455 300), (("Plic" : Str), .cls 266 179), (("SIZES" : Str), .tup 271), (("SPACE" : Str), .int 4294967296), (("Stretch" : Str), .cls 490 473), (("Timer" : Str), .cls 160 107), (("Trap" : Str), .xcls 91 88), (("ValueError" : Str), .typ "ValueError"), (("WORD_devices" : Str), .int 4294967295), (("WORD_memory" : Str), .int 4), (("_law_alike" : Str), .fn 654), (("_law_best" : Str), .fn 587), (("_law_bits" : Str), .fn 592), (("_law_claimed_right" : Str), .fn 630), (("_law_clock_right" : Str), .fn 599), (("_law_deed_right" : Str), .fn 649), (("_law_done_right" : Str), .fn 635), (("_law_let_right" : Str), .fn 618), (("_law_lined" : Str), .fn 623), (("_law_more" : Str), .fn 573), (("_law_rank_right" : Str), .fn 613), (("_law_take" : Str), .fn 566), (("_law_ticked" : Str), .fn 606), (("_law_tried" : Str), .fn 580), (("_law_wrong_right" : Str), .fn 642), (("divmod" : Str), .bltn "divmod"), (("len" : Str), .bltn "len"), (("min" : Str), .bltn "min"), (("need_size" : Str), .fn 278), (("need_stretch" : Str), .fn 285), (("range" : Str), .typ "range"), (("sorted" : Str), .bltn "sorted"), (("sum" : Str), .bltn "sum")]
theorem Tg_ok : ∀ q ∈ Tg, GOk w q.1 q.2 := fmc (⟨by k_is, by k_is, xd_71 w, by k_is, by k_is, by k_is, ⟨.type "type", by k_is, by k_is⟩, by k_is⟩) (fmc (⟨by k_is, by k_is, xd_52 w, by k_is, by k_is, by k_is, ⟨.type "type", by k_is, by k_is⟩, by k_is⟩) (fmc (⟨by k_is, by k_is, xd_39 w, by k_is, by k_is, by k_is, ⟨.type "type", by k_is, by k_is⟩, by k_is⟩) (fmc (⟨by k_is, by k_is, by k_is, by k_is, by k_is⟩) (fmc (⟨_, by k_is⟩) (fmc (⟨_, by k_is⟩) (fmc (⟨by k_is, by k_is, by k_is, by k_is, by k_is⟩) (fmc (⟨by k_is, by k_is, by k_is, by k_is, by k_is⟩) (fmc ((show nsIn (hd.heap_39 w.params) mainGlobals "SIZES" = some (some (.ref 271)) from by k_is)) (fmc (⟨_, by k_is⟩) (fmc (⟨by k_is, by k_is, by k_is, by k_is, by k_is⟩) (fmc (⟨by k_is, by k_is, by k_is, by k_is, by k_is⟩) (fmc (⟨by k_is, by k_is, xd_91 w, by k_is, by k_is, by k_is, ⟨.type "type", by k_is, by k_is⟩, by k_is⟩) (fmc (⟨by k_is, rfl, by decide⟩) (fmc (⟨_, by k_is⟩) (fmc (⟨_, by k_is⟩) (fmc (⟨by k_is, by k_is⟩) (fmc (⟨by k_is, by k_is⟩) (fmc (⟨by k_is, by k_is⟩) (fmc (⟨by k_is, by k_is⟩) (fmc (⟨by k_is, by k_is⟩) (fmc (⟨by k_is, by k_is⟩) (fmc (⟨by k_is, by k_is⟩) (fmc (⟨by k_is, by k_is⟩) (fmc (⟨by k_is, by k_is⟩) (fmc (⟨by k_is, by k_is⟩) (fmc (⟨by k_is, by k_is⟩) (fmc (⟨by k_is, by k_is⟩) (fmc (⟨by k_is, by k_is⟩) (fmc (⟨by k_is, by k_is⟩) (fmc (⟨by k_is, by k_is⟩) (fmc (⟨by k_is, rfl, by decide⟩) (fmc (⟨by k_is, rfl, by decide⟩) (fmc (⟨by k_is, rfl, by decide⟩) (fmc (⟨by k_is, by k_is⟩) (fmc (⟨by k_is, by k_is⟩) (fmc (⟨by k_is, rfl, by decide⟩) (fmc (⟨by k_is, rfl, by decide⟩) (fmc (⟨by k_is, rfl, by decide⟩) (fmn)))))))))))))))))))))))))))))))))))))))
noncomputable def Tcl : List ((Addr × Str) × Int) := [((266, ("CONTEXT" : Str)), 2097152), ((266, ("CONTEXT_STEP" : Str)), 4096), ((266, ("ENABLE" : Str)), 8192), ((266, ("ENABLE_STEP" : Str)), 128), ((266, ("PENDING" : Str)), 4096), ((160, ("COMPARE" : Str)), 16384), ((160, ("SOFT" : Str)), 0), ((160, ("TIME" : Str)), 49144)]
theorem Tcl_ok : ∀ q ∈ Tcl, ∃ mc t, typeIn (hd.heap_39 w.params) (.ref q.1.1) = some mc ∧ readsIn (hd.heap_39 w.params) q.1.1 mc = true ∧ findCls (hd.heap_39 w.params) (.ref q.1.1) mc q.1.2 = some (.val (.int q.2 t)) := fmc (⟨_, _, by k_is, by k_is, by k_is⟩) (fmc (⟨_, _, by k_is, by k_is, by k_is⟩) (fmc (⟨_, _, by k_is, by k_is, by k_is⟩) (fmc (⟨_, _, by k_is, by k_is, by k_is⟩) (fmc (⟨_, _, by k_is, by k_is, by k_is⟩) (fmc (⟨_, _, by k_is, by k_is, by k_is⟩) (fmc (⟨_, _, by k_is, by k_is, by k_is⟩) (fmc (⟨_, _, by k_is, by k_is, by k_is⟩) (fmn))))))))
noncomputable def Tat : List (Str × List Addr × List Addr) := [(("address" : Str), [], [71]), (("begin" : Str), [455, 490], []), (("cause" : Str), [], [91]), (("compare" : Str), [160], []), (("contexts" : Str), [266], []), (("device" : Str), [490], []), (("enabled" : Str), [266], []), (("end" : Str), [455, 490], []), (("lines" : Str), [266], []), (("memory" : Str), [555], []), (("priorities" : Str), [266], []), (("reason" : Str), [], [52, 71, 91]), (("served" : Str), [266], []), (("size" : Str), [455], []), (("soft" : Str), [160], []), (("sources" : Str), [266], []), (("stretches" : Str), [555], []), (("thresholds" : Str), [266], []), (("time" : Str), [160], []), (("value" : Str), [], [91]), (("words" : Str), [455], [])]
theorem Tat_ok : ∀ q ∈ Tat, (∀ C ∈ q.2.1, GetOk w q.1 C ∧ SetOk w q.1 C) ∧ ∀ C ∈ q.2.2, (XD w C ∧ findIn (hd.heap_39 w.params) (.ref C) "__getattr__" = some none ∧ findIn (hd.heap_39 w.params) (.ref C) q.1 = some none) ∧ takerIn (hd.heap_39 w.params) C q.1 = some none := fmc (⟨fmn, fmc (⟨⟨xd_71 w, by k_is, by k_is⟩, by k_is⟩) (fmn)⟩) (fmc (⟨fmc (⟨⟨by k_is, by k_is, by k_is, by k_is⟩, ⟨by k_is, by k_is, by k_is, by k_is⟩⟩) (fmc (⟨⟨by k_is, by k_is, by k_is, by k_is⟩, ⟨by k_is, by k_is, by k_is, by k_is⟩⟩) (fmn)), fmn⟩) (fmc (⟨fmn, fmc (⟨⟨xd_91 w, by k_is, by k_is⟩, by k_is⟩) (fmn)⟩) (fmc (⟨fmc (⟨⟨by k_is, by k_is, by k_is, by k_is⟩, ⟨by k_is, by k_is, by k_is, by k_is⟩⟩) (fmn), fmn⟩) (fmc (⟨fmc (⟨⟨by k_is, by k_is, by k_is, by k_is⟩, ⟨by k_is, by k_is, by k_is, by k_is⟩⟩) (fmn), fmn⟩) (fmc (⟨fmc (⟨⟨by k_is, by k_is, by k_is, by k_is⟩, ⟨by k_is, by k_is, by k_is, by k_is⟩⟩) (fmn), fmn⟩) (fmc (⟨fmc (⟨⟨by k_is, by k_is, by k_is, by k_is⟩, ⟨by k_is, by k_is, by k_is, by k_is⟩⟩) (fmn), fmn⟩) (fmc (⟨fmc (⟨⟨by k_is, by k_is, by k_is, by k_is⟩, ⟨by k_is, by k_is, by k_is, by k_is⟩⟩) (fmc (⟨⟨by k_is, by k_is, by k_is, by k_is⟩, ⟨by k_is, by k_is, by k_is, by k_is⟩⟩) (fmn)), fmn⟩) (fmc (⟨fmc (⟨⟨by k_is, by k_is, by k_is, by k_is⟩, ⟨by k_is, by k_is, by k_is, by k_is⟩⟩) (fmn), fmn⟩) (fmc (⟨fmc (⟨⟨by k_is, by k_is, by k_is, by k_is⟩, ⟨by k_is, by k_is, by k_is, by k_is⟩⟩) (fmn), fmn⟩) (fmc (⟨fmc (⟨⟨by k_is, by k_is, by k_is, by k_is⟩, ⟨by k_is, by k_is, by k_is, by k_is⟩⟩) (fmn), fmn⟩) (fmc (⟨fmn, fmc (⟨⟨xd_52 w, by k_is, by k_is⟩, by k_is⟩) (fmc (⟨⟨xd_71 w, by k_is, by k_is⟩, by k_is⟩) (fmc (⟨⟨xd_91 w, by k_is, by k_is⟩, by k_is⟩) (fmn)))⟩) (fmc (⟨fmc (⟨⟨by k_is, by k_is, by k_is, by k_is⟩, ⟨by k_is, by k_is, by k_is, by k_is⟩⟩) (fmn), fmn⟩) (fmc (⟨fmc (⟨⟨by k_is, by k_is, by k_is, by k_is⟩, ⟨by k_is, by k_is, by k_is, by k_is⟩⟩) (fmn), fmn⟩) (fmc (⟨fmc (⟨⟨by k_is, by k_is, by k_is, by k_is⟩, ⟨by k_is, by k_is, by k_is, by k_is⟩⟩) (fmn), fmn⟩) (fmc (⟨fmc (⟨⟨by k_is, by k_is, by k_is, by k_is⟩, ⟨by k_is, by k_is, by k_is, by k_is⟩⟩) (fmn), fmn⟩) (fmc (⟨fmc (⟨⟨by k_is, by k_is, by k_is, by k_is⟩, ⟨by k_is, by k_is, by k_is, by k_is⟩⟩) (fmn), fmn⟩) (fmc (⟨fmc (⟨⟨by k_is, by k_is, by k_is, by k_is⟩, ⟨by k_is, by k_is, by k_is, by k_is⟩⟩) (fmn), fmn⟩) (fmc (⟨fmc (⟨⟨by k_is, by k_is, by k_is, by k_is⟩, ⟨by k_is, by k_is, by k_is, by k_is⟩⟩) (fmn), fmn⟩) (fmc (⟨fmn, fmc (⟨⟨xd_91 w, by k_is, by k_is⟩, by k_is⟩) (fmn)⟩) (fmc (⟨fmc (⟨⟨by k_is, by k_is, by k_is, by k_is⟩, ⟨by k_is, by k_is, by k_is, by k_is⟩⟩) (fmn), fmn⟩) (fmn)))))))))))))))))))))
noncomputable def Tmt : List (Str × List (Addr × Addr)) := [(("attach" : Str), [(555, 515)]), (("best" : Str), [(266, 214)]), (("claim" : Str), [(266, 228)]), (("complete" : Str), [(266, 235)]), (("context_at" : Str), [(266, 242)]), (("enable_at" : Str), [(266, 249)]), (("get" : Str), [(455, 384)]), (("half_of" : Str), [(160, 143)]), (("holds" : Str), [(490, 480)]), (("is_due" : Str), [(160, 122), (266, 221)]), (("is_soft_due" : Str), [(160, 129)]), (("keep" : Str), [(455, 342)]), (("load" : Str), [(160, 150), (266, 256), (555, 530)]), (("meets" : Str), [(490, 487)]), (("need_aligned" : Str), [(455, 321)]), (("need_context" : Str), [(266, 193)]), (("need_source" : Str), [(266, 186)]), (("pending" : Str), [(266, 207)]), (("put" : Str), [(455, 391)]), (("put_word" : Str), [(455, 335)]), (("set_line" : Str), [(266, 200)]), (("store" : Str), [(160, 157), (266, 263), (555, 538)]), (("stretch_at" : Str), [(555, 522)]), (("tick" : Str), [(160, 115)]), (("wait_until" : Str), [(160, 136)]), (("word" : Str), [(455, 328)])]
theorem Tmt_ok : ∀ q ∈ Tmt, ∀ r ∈ q.2, plainGet (hd.heap_39 w.params) r.1 q.1 = true ∧ findIn (hd.heap_39 w.params) (.ref r.1) q.1 = some (some (.ref r.2)) ∧ isFn (hd.heap_39 w.params) (.ref r.2) = true ∧ keepIn (hd.heap_39 w.params) (.ref r.2) = true := fmc (fmc (⟨by k_is, by k_is, by k_is, by k_is⟩) (fmn)) (fmc (fmc (⟨by k_is, by k_is, by k_is, by k_is⟩) (fmn)) (fmc (fmc (⟨by k_is, by k_is, by k_is, by k_is⟩) (fmn)) (fmc (fmc (⟨by k_is, by k_is, by k_is, by k_is⟩) (fmn)) (fmc (fmc (⟨by k_is, by k_is, by k_is, by k_is⟩) (fmn)) (fmc (fmc (⟨by k_is, by k_is, by k_is, by k_is⟩) (fmn)) (fmc (fmc (⟨by k_is, by k_is, by k_is, by k_is⟩) (fmn)) (fmc (fmc (⟨by k_is, by k_is, by k_is, by k_is⟩) (fmn)) (fmc (fmc (⟨by k_is, by k_is, by k_is, by k_is⟩) (fmn)) (fmc (fmc (⟨by k_is, by k_is, by k_is, by k_is⟩) (fmc (⟨by k_is, by k_is, by k_is, by k_is⟩) (fmn))) (fmc (fmc (⟨by k_is, by k_is, by k_is, by k_is⟩) (fmn)) (fmc (fmc (⟨by k_is, by k_is, by k_is, by k_is⟩) (fmn)) (fmc (fmc (⟨by k_is, by k_is, by k_is, by k_is⟩) (fmc (⟨by k_is, by k_is, by k_is, by k_is⟩) (fmc (⟨by k_is, by k_is, by k_is, by k_is⟩) (fmn)))) (fmc (fmc (⟨by k_is, by k_is, by k_is, by k_is⟩) (fmn)) (fmc (fmc (⟨by k_is, by k_is, by k_is, by k_is⟩) (fmn)) (fmc (fmc (⟨by k_is, by k_is, by k_is, by k_is⟩) (fmn)) (fmc (fmc (⟨by k_is, by k_is, by k_is, by k_is⟩) (fmn)) (fmc (fmc (⟨by k_is, by k_is, by k_is, by k_is⟩) (fmn)) (fmc (fmc (⟨by k_is, by k_is, by k_is, by k_is⟩) (fmn)) (fmc (fmc (⟨by k_is, by k_is, by k_is, by k_is⟩) (fmn)) (fmc (fmc (⟨by k_is, by k_is, by k_is, by k_is⟩) (fmn)) (fmc (fmc (⟨by k_is, by k_is, by k_is, by k_is⟩) (fmc (⟨by k_is, by k_is, by k_is, by k_is⟩) (fmc (⟨by k_is, by k_is, by k_is, by k_is⟩) (fmn)))) (fmc (fmc (⟨by k_is, by k_is, by k_is, by k_is⟩) (fmn)) (fmc (fmc (⟨by k_is, by k_is, by k_is, by k_is⟩) (fmn)) (fmc (fmc (⟨by k_is, by k_is, by k_is, by k_is⟩) (fmn)) (fmc (fmc (⟨by k_is, by k_is, by k_is, by k_is⟩) (fmn)) (fmn))))))))))))))))))))))))))
noncomputable def Tex : List (Addr × List (Addr × Bool)) := [(52, [(52, true), (71, false), (91, false)]), (71, [(52, false), (71, true), (91, false)]), (91, [(52, false), (71, false), (91, true)])]
theorem Tex_ok : ∀ q ∈ Tex, ∀ r ∈ q.2, exmOne (hd.heap_39 w.params) (.ref r.1) (.ref q.1) = some r.2 := fmc (fmc (by kts_exm) (fmc (by kts_exm) (fmc (by kts_exm) (fmn)))) (fmc (fmc (by kts_exm) (fmc (by kts_exm) (fmc (by kts_exm) (fmn)))) (fmc (fmc (by kts_exm) (fmc (by kts_exm) (fmc (by kts_exm) (fmn)))) (fmn)))
noncomputable def TT : TB := ⟨Tg, Tcl, Tat, Tmt, Tex, 271, [1, 2, 4], [52, 71, 91], []⟩
theorem Ttup : ∃ l n dd sl, (hd.heap_39 w.params).lookup 271 = some ⟨.type "tuple", dd, .seq (List.toArray l) n, sl⟩ ∧ IntsAre l [1, 2, 4] := ⟨_, _, _, _, by k_is, .cons 1 _ (.cons 2 _ (.cons 4 _ .nil))⟩
theorem TT_ok : TOk w TT := ⟨Tg_ok w, Tcl_ok w, Tat_ok w, Tmt_ok w, Tex_ok w, Ttup w, fmc (xd_52 w) (fmc (xd_71 w) (fmc (xd_91 w) fmn)), by k_is⟩
noncomputable abbrev FT : List (Addr × Nat × Tab) := [(36, 2, none), (68, 2, none), (88, 3, none), (107, 1, none), (115, 2, none), (122, 1, none), (129, 1, none), (136, 2, none), (143, 2, none), (150, 3, none), (157, 4, none), (179, 3, none), (186, 2, none), (193, 2, none), (200, 3, none), (207, 1, none), (214, 3, none), (221, 2, none), (228, 2, none), (235, 3, none), (242, 2, none), (249, 2, none), (256, 3, none), (263, 4, none), (278, 1, none), (285, 2, none), (300, 2, none), (321, 3, none), (328, 2, none), (335, 3, none), (342, 3, none), (384, 3, none), (391, 4, none), (473, 4, none), (480, 3, none), (487, 3, none), (508, 2, none), (515, 4, none), (522, 3, none), (530, 3, none), (538, 4, none), (566, 2, none), (573, 2, none), (580, 1, none), (587, 3, none), (592, 1, none), (599, 4, some (598, 594, 2)), (606, 4, none), (613, 3, none), (618, 4, none), (623, 3, none), (630, 5, none), (635, 4, some (634, 632, 1)), (642, 3, some (641, 637, 0)), (649, 5, none), (654, 4, none), (659, 1, some (658, 656, 3))]
section
variable {p : Program} {loose : List Str} {mean : ExcName → Option Value} {mg mb : Str → Option Value} {G0 : Heap}
theorem fk_ho : each (fun q : Addr × Nat × Tab => (hd.heap_39 w.params).lookup q.1) FT = FT.map fun q => some ⟨.type "function", none, .func (fnOf (fd w q.1).name (fd w q.1).qualname (fd w q.1).params (bd w q.1) (fd w q.1).scope (fd w q.1).defaults (fd w q.1).kwdefaults (fd w q.1).doc (fd w q.1).pyModule (fd w q.1).annotations (fd w q.1).code (fd w q.1).closureTuple), #[]⟩ := by kernel_rfl
theorem fk_b : FT.all (fun q => codeIn (hd.heap_39 w.params) (fd w q.1).code (fd w q.1).qualname && fok w q.1 q.2.1 && Nat.ble q.2.1 (pnames w q.1).length) = true := by kernel_rfl
-- those with defaults
noncomputable def FDl (q : Addr × Nat × Tab) : Bool := [36, 88, 115, 179, 300, 530, 538].any fun i => Nat.beq i q.1
noncomputable def dT (f : Addr) : Addr := match (fd w f).defaults with | .ref t => t | _ => 0
noncomputable def seqOf : Option Obj → Option (Array Value)
  | some ⟨_, _, .seq l _, _⟩ => some l
  | _ => none
noncomputable def dI (f : Addr) : Array Value := (seqOf ((hd.heap_39 w.params).lookup (dT w f))).getD #[]
theorem fk_N {x : Nat → Value} : each (fun q : Addr × Nat × Tab => bindArgs (fd w q.1) ⟨(List.range q.2.1).map x, []⟩) (FT.filter fun q => !FDl q) = (FT.filter fun q => !FDl q).map fun q => pure (((pnames w q.1).take q.2.1).zip ((List.range q.2.1).map x) ++ xval w q.1 q.2.1) := by kernel_rfl
theorem fk_D1 : each (fun q : Addr × Nat × Tab => ((fd w q.1).defaults, seqOf ((hd.heap_39 w.params).lookup (dT w q.1)))) (FT.filter FDl) = (FT.filter FDl).map fun q => (.ref (dT w q.1), some (dI w q.1)) := by kernel_rfl
theorem fk_D2 {x : Nat → Value} : each (fun q : Addr × Nat × Tab => (bk (fd w q.1) ((List.range q.2.1).map x)).1 (some (dI w q.1))) (FT.filter FDl) = (FT.filter FDl).map fun q => pure (((pnames w q.1).take q.2.1).zip ((List.range q.2.1).map x) ++ xval w q.1 q.2.1) := by kernel_rfl
theorem fk_t : each (fun q : Addr × Nat × Tab => q.2.2.map fun _ => (fd w q.1).code) FT = FT.map fun q => q.2.2.map fun t => .ref t.1 := by kernel_rfl
theorem fk_t2 : FT.all (fun q => q.2.2.all fun t => tabs4.elem (t.1, t.2.1)) = true := by decide
theorem seqOf_some {o : Option Obj} {l : Array Value} (h : seqOf o = some l) : ∃ oc od n sl, o = some ⟨oc, od, .seq l n, sl⟩ := by
  cases o with
  | none => exact no_some9 h
  | some o =>
    obtain ⟨oc, od, d, sl⟩ := o
    cases d <;> first | exact no_some9 h | skip
    cases h
    exact ⟨_, _, _, _, rfl⟩
theorem list_f {α : Type} (d : α) {l : List α} {N : Nat} (h : l.length = N) : (List.range N).map (fun i => l.getD i d) = l := by
  refine List.ext_getElem (by rw [List.length_map, List.length_range, h]) fun i h1 h2 => ?_
  rw [List.getElem_map, List.getElem_range]
  exact (List.getElem_eq_getD d).symm
theorem codeAll_at {h : Heap} : ∀ {tabs : List (Addr × Addr)}, CodeAll tabs h → ∀ q ∈ tabs, CodeHd h q.1 q.2
  | [], _, _, hq => nomatch hq
  | _ :: _, C, q, hq => by
    rcases List.mem_cons.mp hq with rfl | hq
    · exact C.1
    · exact codeAll_at C.2 q hq
theorem FT_ok (C : CodeAll tabs4 G0) : ∀ q ∈ FT, FOk w G0 q.1 q.2.1 q.2.2 := fun q hq => by
  have hb := List.all_eq_true.mp (fk_b w) q hq
  simp only [Bool.and_eq_true] at hb
  refine ⟨⟨_, _, _, each_map (fk_ho w) q hq⟩, hb.1.1, hb.1.2, fun vs hv s X => ?_, hb.2, fun c P tid e => ?_⟩
  · have ev := list_f Value.none hv
    cases hq2 : FDl q with
    | false =>
      have h : bindArgs (fd w q.1) ⟨(List.range q.2.1).map (fun i => vs.getD i .none), []⟩ = _ := each_map (fk_N w) q (List.mem_filter.mpr ⟨hq, by rw [hq2]; rfl⟩)
      rw [ev] at h
      exact bind_N h
    | true =>
      have hf := List.mem_filter.mpr ⟨hq, hq2⟩
      have h := each_map (fk_D1 w) q hf
      have h1 : (fd w q.1).defaults = .ref (dT w q.1) := congrArg (·.1) h
      obtain ⟨oc, od, n, sl, h2⟩ := seqOf_some (congrArg (·.2) h)
      have h3 : (bk (fd w q.1) ((List.range q.2.1).map (fun i => vs.getD i .none))).1 (some (dI w q.1)) = _ := each_map (fk_D2 w) q hf
      rw [ev] at h3
      exact bind_D X h1 h2 h3
  · have h1 : (q.2.2.map fun _ => (fd w q.1).code) = q.2.2.map fun t => .ref t.1 := each_map (fk_t w) q hq
    have h2 := List.all_eq_true.mp fk_t2 q hq
    rw [e] at h1 h2
    exact ⟨Option.some.inj h1, codeAll_at C (c, P) (List.mem_of_elem_eq_true (show tabs4.elem (c, P) = true from h2))⟩
theorem fk_659 (C : CodeAll tabs4 G0) : FOk w G0 659 1 (some (658, 656, 3)) := FT_ok w C (659, 1, some (658, 656, 3)) (by decide)
end
end Mine
end
-- M44
section
open PySem PySem.W PyProof.Rows PySem.Calls PySem.Spec
set_option Elab.async false
set_option linter.all false
namespace Mine
set_option maxRecDepth 100000
-- numbers may be given anew, and cells dropped
noncomputable def renV (ρ : Nat → Nat) : AV → AV
  | .ref i => .ref (ρ i)
  | v => v
noncomputable def renO (ρ : Nat → Nat) : AO → AO
  | .list vs => .list (vs.map (renV ρ))
  | .tup vs => .tup (vs.map (renV ρ))
  | .dict es => .dict (es.map fun q => (q.1, renV ρ q.2))
  | .pdict es => .pdict (es.map fun q => (q.1, renV ρ q.2))
  | .inst C d => .inst C (ρ d)
  | .cell v => .cell (v.map (renV ρ))
  | .idict i es => .idict (ρ i) (es.map fun q => (q.1, renV ρ q.2))
  | .lam b s cl => .lam b s (cl.map fun q => (q.1, ρ q.2))
  | .liter l k => .liter (ρ l) k
  | .titer l k => .titer (ρ l) k
  | .tab i P => .tab (ρ i) P
  | .exc C d t c => .exc C (d.map ρ) (t.map ρ) c
  | .range a b => .range a b
  | .riter a b => .riter a b
  | .tb => .tb
noncomputable def vlt (n : Nat) : AV → Prop
  | .ref i => i < n
  | _ => True
noncomputable def olt (n : Nat) : AO → Prop
  | .list vs => ∀ v ∈ vs, vlt n v
  | .tup vs => ∀ v ∈ vs, vlt n v
  | .dict es => ∀ q ∈ es, vlt n q.2
  | .pdict es => ∀ q ∈ es, vlt n q.2
  | .inst _ d => d < n
  | .cell v => ∀ u, v = some u → vlt n u
  | .idict i es => i < n ∧ ∀ q ∈ es, vlt n q.2
  | .lam _ _ cl => ∀ q ∈ cl, q.2 < n
  | .liter l _ => l < n
  | .titer l _ => l < n
  | .tab i _ => i < n
  | .exc _ d t _ => (∀ i, d = some i → i < n) ∧ ∀ i, t = some i → i < n
  | _ => True
theorem all2_back {α β γ : Type} {R : α → β → Prop} {S : γ → β → Prop} {f : γ → α} : ∀ {l : List γ} {r : List β}, All2 R (l.map f) r → (∀ x ∈ l, ∀ y, R (f x) y → S x y) → All2 S l r
  | [], r, h, _ => by cases h; exact .nil
  | x :: l, r, h, k => by
    cases h with
    | cons a b => exact .cons (k x (.head _) _ a) (all2_back b fun y hy => k y (.tail _ hy))
theorem all2_all {α β : Type} {R : α → β → Prop} {Q : α → Prop} : ∀ {l : List α} {r : List β}, All2 R l r → (∀ x y, R x y → Q x) → ∀ x ∈ l, Q x
 := fun t k => by
  induction t with
  | nil => exact fun _ h => nomatch h
  | cons a b ih =>
    intro x h
    rcases List.mem_cons.mp h with rfl | h
    · exact k _ _ a
    · exact ih x h
theorem VR.down {φ : Nat → Addr} {n m : Nat} {ρ : Nat → Nat} {v : AV} {u : Value} (h : VR φ m (renV ρ v) u) (hv : vlt n v) : VR (fun i => φ (ρ i)) n v u := by
  induction v <;> first | exact h | exact ⟨hv, h.2⟩
theorem OR.down {φ : Nat → Addr} {n m : Nat} {ρ : Nat → Nat} {P : World} {a : AO} {o : Obj} (h : OR φ m P (renO ρ a) o) (ha : olt n a) : OR (fun i => φ (ρ i)) n P a o := by
  induction a with
  | list vs => obtain ⟨ws, c, e, r⟩ := h; exact ⟨ws, c, e, all2_back r fun x hx y k => k.down (ha x hx)⟩
  | tup vs => obtain ⟨ws, c, e, r⟩ := h; exact ⟨ws, c, e, all2_back r fun x hx y k => k.down (ha x hx)⟩
  | dict es => obtain ⟨ws, c, e, r⟩ := h; exact ⟨ws, c, e, all2_back r fun x hx y k => by obtain ⟨z, k1, k2, k3, k4⟩ := k; exact ⟨z, k1, k2, k3, k4.down (ha x hx)⟩⟩
  | pdict es => obtain ⟨kvs, e, r⟩ := h; exact ⟨kvs, e, all2_back r fun x hx y k => ⟨k.1, k.2.down (ha x hx)⟩⟩
  | inst C d => exact ⟨ha, h.2⟩
  | cell v =>
    refine xe12 (h) fun w e r => ?_
    refine ⟨w, e, ?_⟩
    induction v with
    | none => induction w <;> exact rfl
    | some x =>
      induction w with
      | none => exact no_some8 r
      | some y => exact VR.down (v := x) r (ha x rfl)
  | idict i es => obtain ⟨hi, hm, kvs, e, r⟩ := h; exact ⟨ha.1, hm, kvs, e, all2_back r fun x hx y k => ⟨k.1, k.2.down (ha.2 x hx)⟩⟩
  | lam b s cl => obtain ⟨nm, qual, pm, c, ctv, clos, e, r⟩ := h; exact ⟨nm, qual, pm, c, ctv, clos, e, all2_back r fun x hx y k => ⟨k.1, k.2.1, ha x hx⟩⟩
  | range a b => exact h
  | riter a b => exact h
  | liter l k => exact ⟨ha, h.2⟩
  | titer l k => exact ⟨ha, h.2⟩
  | tab i Q => exact ⟨ha, h.2⟩
  | exc C d t cx =>
    obtain ⟨h1, ⟨vs, sl, e, e0, e1, e2⟩, h2⟩ := h
    refine ⟨ha.1, ⟨vs, sl, ?_, e0, ?_, e2⟩, ha.2⟩
    · induction d <;> exact e
    · induction t <;> exact e1
  | tb => exact h
theorem VR.lt {φ : Nat → Addr} {n : Nat} {v : AV} {u : Value} (h : VR φ n v u) : vlt n v := by
  induction v <;> first | exact trivial | exact h.1
theorem OR.olt {φ : Nat → Addr} {n : Nat} {P : World} {a : AO} {o : Obj} (h : OR φ n P a o) : olt n a := by
  induction a with
  | list vs => obtain ⟨ws, c, e, r⟩ := h; exact all2_all r fun x y k => k.lt
  | tup vs => obtain ⟨ws, c, e, r⟩ := h; exact all2_all r fun x y k => k.lt
  | dict es => obtain ⟨ws, c, e, r⟩ := h; exact all2_all r fun x y k => by obtain ⟨z, k1, k2, k3, k4⟩ := k; exact k4.lt
  | pdict es => obtain ⟨kvs, e, r⟩ := h; exact all2_all r fun x y k => k.2.lt
  | inst C d => exact h.1
  | cell v =>
    refine xe12 (h) fun w e r => ?_
    intro u hu
    subst hu
    induction w with
    | none => exact no_some8 r
    | some y => exact VR.lt (v := u) r
  | idict i es => obtain ⟨hi, hm, kvs, e, r⟩ := h; exact ⟨hi, all2_all r fun x y k => k.2.lt⟩
  | lam b s cl => obtain ⟨nm, qual, pm, c, ctv, clos, e, r⟩ := h; exact all2_all r fun x y k => k.2.2
  | range a b => exact trivial
  | riter a b => exact trivial
  | liter l k => exact h.1
  | titer l k => exact h.1
  | tab i Q => exact h.1
  | exc C d t cx => exact ⟨h.1, h.2.2⟩
  | tb => exact trivial
theorem renV_id : ∀ v : AV, renV (fun i => i) v = v := fun v => by induction v <;> rfl
theorem map_same {α : Type} {f : α → α} (h : ∀ x, f x = x) : ∀ l : List α, l.map f = l
  | [] => rfl
  | x :: l => by rw [List.map_cons, h, map_same h l]
theorem renO_id (a : AO) : renO (fun i => i) a = a := by
  have h2 : ∀ {α : Type} (q : α × AV), (q.1, renV (fun i => i) q.2) = q := fun q => by rw [renV_id]
  induction a with
  | list vs => exact congrArg AO.list (map_same renV_id vs)
  | tup vs => exact congrArg AO.tup (map_same renV_id vs)
  | dict es => exact congrArg AO.dict (map_same h2 es)
  | pdict es => exact congrArg AO.pdict (map_same h2 es)
  | cell v => induction v with
    | none => rfl
    | some x => exact congrArg (fun y => AO.cell (some y)) (renV_id x)
  | idict i es => exact congrArg (AO.idict i) (map_same h2 es)
  | lam b s cl => exact congrArg (AO.lam b s) (map_same (fun _ => rfl) cl)
  | exc C d t c => induction d <;> induction t <;> rfl
  | _ => rfl
theorem CodeRef.ren {ρ : Nat → Nat} {a : AO} {o : Obj} {c : Addr} (h : CodeRef a o c) : CodeRef (renO ρ a) o c := by
  induction a <;> exact h
theorem all2_ex {α β : Type} {R : α → β → Prop} {Q : β → Prop} : ∀ {l : List α}, (∀ x ∈ l, ∃ y, R x y ∧ Q y) → ∃ r, All2 R l r ∧ ∀ y ∈ r, Q y
  | [], _ => ⟨[], .nil, fun _ h => nomatch h⟩
  | x :: l, h => by
    refine xe12 (h x (.head _)) fun y h1 h2 => ?_
    refine xe12 (all2_ex (l := l) fun z hz => h z (.tail _ hz)) fun r h3 h4 => ?_
    refine ⟨y :: r, .cons h1 h3, fun z hz => ?_⟩
    rcases List.mem_cons.mp hz with rfl | hz
    · exact h2
    · exact h4 z hz
/-- H is H' with some cells dropped and the others numbered anew -/
structure Down (ρ : Nat → Nat) (H H' : Hp) : Prop where
  get : ∀ p ∈ H.cells, H'.get (ρ p.1) = some (renO ρ p.2)
  olt : ∀ p ∈ H.cells, olt H.next p.2
  lt : ∀ p ∈ H.cells, p.1 < H.next
  inj : ∀ p ∈ H.cells, ∀ q ∈ H.cells, ρ p.1 = ρ q.1 → p.1 = q.1
  nd : (H.cells.map (·.1)).Nodup
theorem LR.down {φ : Nat → Addr} {P : World} {ks : List (Addr × Obj)} {ρ : Nat → Nat} {H H' : Hp} {news : List (Addr × Obj)} (L : LR φ P ks H' news) (D : Down ρ H H') : ∃ news', LR (fun i => φ (ρ i)) P ks H news' ∧ ∀ q ∈ news', q ∈ news := by
  refine xe1 (L.ex) fun sat L => ?_
  obtain ⟨led, h1, h2⟩ := all2_ex (R := fun (p : Nat × AO) (q : Addr × Obj) => q.1 = φ (ρ p.1) ∧ OR (fun i => φ (ρ i)) H.next P p.2 q.2) (Q := fun q => q ∈ news) (l := H.cells) fun p hp => by
    refine xe12 (L.b.get (D.get p hp)) fun o h1 h2 => ?_
    exact ⟨(φ (ρ p.1), o), ⟨rfl, h2.down (D.olt p hp)⟩, h1⟩
  refine xe12 (L.b.all) fun led' e' _ => ?_
  have sub : ∀ q ∈ led ++ (sat ++ ks), q ∈ news := fun q hq => by
    rcases List.mem_append.mp hq with hq | hq
    · exact h2 q hq
    · rw [e']; exact List.mem_append_right _ hq
  refine ⟨led ++ (sat ++ ks), ⟨sat, ⟨⟨led, rfl, h1⟩, fun p hp q hq => L.b.off _ (lookup_lt (D.get p hp)) q hq, D.lt, fun p hp q hq e => D.inj p hp q hq (L.b.inj _ (lookup_lt (D.get p hp)) _ (lookup_lt (D.get q hq)) e), D.nd⟩, L.like, fun p hp o ho c hr => L.ref _ (lookup_lt (D.get p hp)) o (sub _ ho) c hr.ren⟩, sub⟩
theorem lookup_nd : ∀ {l : List (Nat × AO)}, (l.map (·.1)).Nodup → ∀ {p}, p ∈ l → getO p.1 l = some p.2
  | [], _, _, h => nomatch h
  | q :: l, hn, p, h => by
    rw [List.map_cons, List.nodup_cons] at hn
    rw [getO_cons]
    rcases List.mem_cons.mp h with rfl | h
    · rw [beq_self_eq_true]
    · rw [show (p.1 == q.1) = false from by simpa using fun e : p.1 = q.1 => hn.1 (List.mem_map.mpr ⟨p, h, e⟩)]
      exact lookup_nd hn.2 h
noncomputable def noRef : AV → Bool
  | .ref _ => false
  | _ => true
theorem noRef_low {φ : Nat → Addr} {n m : Nat} {v : AV} {u : Value} (h : noRef v = true) (k : VR φ n v u) : VR φ m v u := by
  induction v <;> first | exact k | cases h
section
variable {w : World} {p : Program} {loose : List Str} {mean : ExcName → Option Value} {mg mb : Str → Option Value} {G0 : Heap} {lv : Nat}
end
end Mine
end
-- M45
section
open PySem PySem.W PyProof.Rows PySem.Calls PySem.Spec
set_option Elab.async false
set_option linter.all false
namespace Mine
set_option maxRecDepth 100000
section
variable {w : World} {p : Program} {loose : List Str} {mean : ExcName → Option Value} {mg mb : Str → Option Value} {G0 : Heap} {lv : Nat} {st : Sta}
theorem cl_back {φ : Nat → Addr} {n m : Nat} {ρ : Nat → Nat} {cl : List (Nat × Nat)} {r : List (Str × Addr)} (h : All2 (CR φ m) (cl.map fun q => (q.1, ρ q.2)) r) (hl : ∀ q ∈ cl, q.2 < n) : All2 (CR (fun i => φ (ρ i)) n) cl r :=
  all2_back h fun x hx y k => ⟨k.1, k.2.1, hl x hx⟩
/-- the state of a frame, numbered anew -/
theorem RelX.down {a : Act} {φ : Nat → Addr} {F F' : Frm} {H H' : Hp} {s : Shared} {ρ : Nat → Nat} (R : RelX w a φ F' H' s) (D : Down ρ H H') (hl : ∀ c v, F.loc.lookup c = some v → F'.loc.lookup c = some (renV ρ v) ∧ vlt H.next v) (hc : F'.cl = F.cl.map fun q => (q.1, ρ q.2)) (hcl : ∀ q ∈ F.cl, q.2 < H.next) : RelX w a (fun i => φ (ρ i)) F H s := by
  refine hide fun q9 b9 => ?_
  refine xe3 (R) fun g m news r => ?_
  refine xe12 (r.lr.down D) fun n' l' sub => ?_
  refine b9 ?_
  refine ⟨g, m, n', ⟨r.fr, fun q hq => r.nw q (sub q hq), l', fun c x v hk e => ?_, ?_, r.turn, r.same⟩⟩
  · refine hide fun q9 b9 => ?_
    refine xa2 (hl c v e) fun h1 h2 => ?_
    refine xe12 (r.loc c x _ hk h1) fun u e1 h3 => ?_
    refine b9 ?_
    exact ⟨u, e1, h3.down h2⟩
  · have := r.cl
    rw [hc] at this
    exact cl_back this hcl
/-- H and F numbered anew, rubbish dropped -/
structure Down2 (ρ : Nat → Nat) (F : Frm) (H : Hp) (F' : Frm) (H' : Hp) : Prop where
  d : Down ρ H H'
  loc : ∀ c v, F.loc.lookup c = some v → F'.loc.lookup c = some (renV ρ v) ∧ vlt H.next v
  cl : F'.cl = F.cl.map fun q => (q.1, ρ q.2)
  clt : ∀ q ∈ F.cl, q.2 < H.next
theorem Down2.rel {a : Act} {φ : Nat → Addr} {F F' : Frm} {H H' : Hp} {s : Shared} {ρ : Nat → Nat} (D : Down2 ρ F H F' H') (R : RelX w a φ F' H' s) : RelX w a (fun i => φ (ρ i)) F H s := R.down D.d D.loc D.cl D.clt
/-- statements that lead from one state to another; the ids in `keep` stay -/
noncomputable def WS (w : World) (G0 : Heap) (lv : Nat) (st : Sta) (body : List Stmt) (keep : Nat → Prop) (F : Frm) (H : Hp) (F' : Frm) (H' : Hp) : Prop :=
  ∀ (a : Act) (φ : Nat → Addr) (s : Shared) (Q : Flow → Shared → Prop) (E : Value → Shared → Prop), a.Ok st lv G0 → OwnE (model PR w) a.A (a.env st) E → RelX w a φ F H s → (∀ φ' s', RelX w a φ' F' H' s' → (∀ i, keep i → φ' i = φ i) → Q .next s') → wpAny (model PR w) a.A (execs body (a.env st)) Q E s
theorem for_inv {x : Str} {px : Pos} {iter : Expr} {body : List Stmt} {pos : Pos} {f : AV → Frm → Hp → Option (Frm × Hp)} {De : Frm → Hp → Res AV} (hnh : st.nh = true) (hn : SN w G0 lv st x f) (h1 : SE w G0 lv st iter De)
    (hs : ∀ (a : Act) (x : Value), foldedSetIterable iter (a.env st) x = pure x) (ht : ∀ u v, letOwnedTupleGo (.Name x px) u v = pure ())
    {a : Act} {φ : Nat → Addr} {F : Frm} {H : Hp} {s : Shared} {Q : Flow → Shared → Prop} {E : Value → Shared → Prop} (ok : a.Ok st lv G0) (R : RelX w a φ F H s)
    {v : AV} {H1 H2 : Hp} {i : Nat} (e1 : De F H = .ok v H1) (e2 : iterD v H1 = .ok (.ref i) H2) {I : Nat → Frm → Hp → Prop} {Fin : Frm → Hp → Prop} (h0 : I 100 F H2) (h00 : ∀ F H, ¬ I 0 F H)
    (step : ∀ k F H, I (k + 1) F H → i < H.next ∧ match nextD i H with
      | none => False
      | some (none, H3) => Fin F H3
      | some (some v, H3) => ∃ y F6 H6, f v F H3 = some y ∧ H.next ≤ y.2.next ∧ WS w G0 lv st body (· = i) y.1 y.2 F6 H6 ∧ I k F6 H6)
    (fin : ∀ φ F H s, RelX w a φ F H s → Fin F H → Q .next s) : wpAny (model PR w) a.A (exec (.For (.Name x px) iter body [] pos) (a.env st)) Q E s := by
  refine wpAny_For (h1 a φ F H s _ E ok R ?_) (hs a)
  rw [e1]
  intro φ1 s1 R1 X1 u hu
  refine O_iter a φ1 F H1 s1 _ E v u ok R1 hu ?_
  rw [e2]
  intro φ2 s2 R2 X2 u2 hu2
  obtain ⟨hi, rfl⟩ := hu2
  refine codeAny_forLoop (fun k s' => ∃ φ' F' H', RelX w a φ' F' H' s' ∧ φ' i = φ2 i ∧ I k F' H') ?_ 100 ⟨φ2, F, H2, R2, rfl, h0⟩ (ht _)
  rintro k s' ⟨φ', F', H', R', e', hh⟩
  induction k with
  | zero => exact (h00 _ _ hh).elim
  | succ k =>
    refine xa2 (step k F' H' hh) fun hi' hst => ?_
    rw [← e']
    refine O_next (i := i) hnh ok R' ?_
    induction e3 : nextD i H' with
    | none => rw [e3] at hst; exact hst.elim
    | some y =>
      rw [e3] at hst
      obtain ⟨v, H3⟩ := y
      have hnx := nextD_next e3
      induction v with
      | none => exact fun s3 R3 => wpAny_execs_nil (fin _ _ _ _ R3 hst)
      | some v =>
        dsimp only at hst ⊢
        refine hide fun q9 b9 => ?_
        refine xe34 (hst) fun y F6 H6 f1 hle hw hI => ?_
        refine b9 ?_
        intro s3 u R3 hu
        refine wpAny_assign_Name (hn a φ' F' H3 s3 _ _ v u ok R3 hu ?_)
        rw [f1]
        dsimp only
        intro φ4 s4 R4 X4
        refine wpAny_mono (E := fun _ _ => False) (hw a φ4 s4 _ _ ok OwnE.never R4 fun φ5 s5 R5 h5 => ?_) (fun _ _ z => z) (fun _ _ z => z.elim)
        exact ⟨k, Nat.lt_succ_self _, φ5, F6, H6, R5, (h5 i rfl).trans (X4.2 i (by rw [hnx]; exact hi')), hI⟩
end
end Mine
end
-- M46
section
open PySem PySem.W PyProof.Rows PySem.Calls PySem.Spec
set_option Elab.async false
set_option linter.all false
namespace Mine
set_option maxRecDepth 100000
section
variable {w : World} {p : Program} {loose : List Str} {mean : ExcName → Option Value} {mg mb : Str → Option Value} {G0 : Heap} {lv : Nat} {st : Sta}
/-- a test that leads from one state to another -/
noncomputable def WB (w : World) (G0 : Heap) (lv : Nat) (st : Sta) (e : Expr) (keep : Nat → Prop) (F : Frm) (H : Hp) (b : Bool) (F' : Frm) (H' : Hp) : Prop :=
  ∀ (a : Act) (φ : Nat → Addr) (s : Shared) (Q : Bool → Shared → Prop) (E : Value → Shared → Prop), a.Ok st lv G0 → RelX w a φ F H s → (∀ φ' s', RelX w a φ' F' H' s' → (∀ i, keep i → φ' i = φ i) → Q b s') → wpAny (model PR w) a.A (PySem.isTrue e (a.env st) (eval e (a.env st))) Q E s
theorem WB.or2 {e1 e2 : Expr} {pos : Pos} {keep : Nat → Prop} {F F1 F2 : Frm} {H H1 H2 : Hp} (h1 : WB w G0 lv st e1 keep F H false F1 H1) (h2 : WB w G0 lv st e2 keep F1 H1 false F2 H2) : WB w G0 lv st (.BoolOp .Or [e1, e2] pos) keep F H false F2 H2 := fun a φ s Q E ok R k =>
  isTrue_or (h1 a φ s _ _ ok R fun φ1 s1 R1 k1 => by
    rw [if_neg (by decide)]
    exact isTrue_or (h2 a φ1 s1 _ _ ok R1 fun φ2 s2 R2 k2 => by
      rw [if_neg (by decide)]
      exact isTrue_or_nil (k φ2 s2 R2 fun i hi => (k2 i hi).trans (k1 i hi))))
theorem WS.if_false {e : Expr} {b : List Stmt} {pos : Pos} {keep : Nat → Prop} {F F1 : Frm} {H H1 : Hp} (h : WB w G0 lv st e keep F H false F1 H1) : WS w G0 lv st [.If e b [] pos] keep F H F1 H1 := fun a φ s Q E ok hE R k =>
  wpAny_execs_cons (wpAny_If (h a φ s _ _ ok R fun φ1 s1 R1 k1 => by
    rw [if_neg (by decide)]
    exact wpAny_execs_nil (wpAny_execs_nil (k φ1 s1 R1 k1))))
end
end Mine
end
-- M47
section
open PySem PySem.W PyProof.Rows PySem.Calls PySem.Spec
set_option Elab.async false
set_option linter.all false
set_option genSizeOf false
set_option genInjectivity false
namespace Mine
set_option maxRecDepth 100000
-- the law's state within its laps: what the law's own rows say, what the machine holds, where the lists lie
structure LS where
  items : List AV
  bx : Int
  time : Int
  wait : Int
  soft : Int
  ranks : List Int
  up : List AV
  served : List AV
  lets : List (List AV)
  least : List Int
  mtime : Int
  mwait : Int
  msoft : Int
  prio : List Int
  en : List Int
  th : List Int
  lines : Int
  sv : Int
  iu : Nat
  is : Nat
  il : List Nat
noncomputable def iL (l : List Int) : AO := .list (l.map .int)
noncomputable def letCells : Nat → List (List AV) → List (Nat × AO)
  | _, [] => []
  | k, x :: l => (k, .list x) :: letCells (k + 1) l
noncomputable def hpc (n c : Int) (X : LS) : List (Nat × AO) :=
  [(0, .tab 0 637), (1, .tab 1 632), (2, .tab 2 594), (3, .tab 3 656),
   (4, .cell (some (.int c))), (5, .cell (some (.ref 22))), (6, .cell (some (.int n))), (7, .cell (some (.ref 20))),
   (8, .list X.items), (9, .list [.ref 8, .int X.bx]),
   (10, .pdict [(97, .int X.time), (104, .int X.wait), (87, .int X.soft), (89, .int n), (75, .ref 11), (102, .ref X.iu), (83, .ref X.is), (44, .ref 14), (43, .ref 15)]),
   (11, iL X.ranks), (12, .list X.up), (13, .list X.served), (14, .list (X.il.map .ref)), (15, iL X.least),
   (16, .dict [(86, .int 64), (6, .int 0), (26, .int 64), (109, .ref 18)]), (17, .inst 455 16), (18, .idict 18 [(4, .int 2596069104)]),
   (19, .dict [(97, .int X.mtime), (16, .int X.mwait), (87, .int X.msoft)]), (20, .inst 160 19),
   (21, .dict [(89, .int n), (20, .int c), (68, .ref 23), (45, .int X.lines), (83, .int X.sv), (25, .ref 24), (95, .ref 25)]), (22, .inst 266 21),
   (23, iL X.prio), (24, iL X.en), (25, iL X.th),
   (26, .dict [(49, .ref 17), (93, .ref 28)]), (27, .inst 555 26), (28, .list [.ref 30, .ref 32]),
   (29, .dict [(6, .int 33554432), (26, .int 33603584), (22, .ref 20)]), (30, .inst 490 29),
   (31, .dict [(6, .int 201326592), (26, .int 203431936), (22, .ref 22)]), (32, .inst 490 31)] ++ letCells 33 X.lets
/-- within the j-th of m laps -/
noncomputable def hp (n c : Int) (X : LS) (m j : Int) : Hp := ⟨hpc n c X ++ [(40, .range 0 m), (41, .riter j (m - j))], 42⟩
end Mine
end
-- M48
section
open PySem PySem.W PyProof.Rows PySem.Calls PySem.Spec
set_option Elab.async false
set_option linter.all false
namespace Mine
set_option maxRecDepth 100000
-- steps of readings
theorem tC_nx {D1 D2 : ST} {F F1 : Frm} {H H1 : Hp} {r : RS} (h1 : D1 F H = .nx F1 H1) (h2 : D2 F1 H1 = r) : tC D1 D2 F H = r := by unfold tC; rw [h1]; exact h2
theorem tC_ret {D1 D2 : ST} {F F1 : Frm} {H H1 : Hp} {v : AV} (h1 : D1 F H = .ret v F1 H1) : tC D1 D2 F H = .ret v F1 H1 := by unfold tC; rw [h1]; rfl
theorem tRet_ok {D : EX} {F : Frm} {H H1 : Hp} {v : AV} (h : D F H = .ok v H1) : tRet D F H = .ret v F H1 := by unfold tRet; rw [h]; rfl
theorem tE_ok {D : EX} {F : Frm} {H H1 : Hp} {v : AV} (h : D F H = .ok v H1) : tE D F H = .nx F H1 := by unfold tE; rw [h]; rfl
theorem tName_ok {f : VX} {D : EX} {F F1 : Frm} {H H1 H2 : Hp} {v : AV} (h : D F H = .ok v H1) (hf : f v F H1 = some (F1, H2)) : tName f D F H = .nx F1 H2 := by
  unfold tName; rw [h]; show (match f v F H1 with | some y => RS.nx y.1 y.2 | none => .stuck) = _; rw [hf]
theorem tIf_ok {D : TX} {D1 D2 : ST} {F : Frm} {H H1 : Hp} {b : Bool} {r : RS} (h : D F H = .ok b H1) (h2 : (if b then D1 F H1 else D2 F H1) = r) : tIf D D1 D2 F H = r := by unfold tIf; rw [h]; exact h2
theorem tUnp_ok {n : Nat} {f} {D : EX} {F F1 : Frm} {H H1 H2 : Hp} {i : Nat} {vs : List AV} (h : D F H = .ok (.ref i) H1) (hu : unT n (.ref i) H1 = some vs) (hf : f vs F H1 = some (F1, H2)) : tUnp n f D F H = .nx F1 H2 := by
  unfold tUnp; rw [h]; show (match unT n (.ref i) H1 with | some vs => (match f vs F H1 with | some y => RS.nx y.1 y.2 | none => .stuck) | none => .stuck) = _; rw [hu]; dsimp only; rw [hf]
theorem tSwp_ok {n : Nat} {f} {D : EX} {F F1 : Frm} {H H1 H2 : Hp} {i : Nat} {vs : List AV} (h : D F H = .ok (.ref i) H1) (hu : unT n (.ref i) H1 = some vs) (hf : f vs.reverse F H1 = some (F1, H2)) : tSwp n f D F H = .nx F1 H2 := by
  unfold tSwp; rw [h]; show (match unT n (.ref i) H1 with | some vs => (match f vs.reverse F H1 with | some y => RS.nx y.1 y.2 | none => .stuck) | none => .stuck) = _; rw [hu]; dsimp only; rw [hf]
theorem eBin_ok {f : AV → AV → Hp → Res AV} {D1 D2 : EX} {F : Frm} {H H1 H2 : Hp} {x y : AV} {r : Res AV} (h1 : D1 F H = .ok x H1) (h2 : D2 F H1 = .ok y H2) (h3 : f x y H2 = r) : eBin f D1 D2 F H = r := by
  unfold eBin; rw [h1]; show (D2 F H1).bind _ = _; rw [h2]; exact h3
theorem eItem_ok {D1 D2 : EX} {F : Frm} {H H1 H2 : Hp} {x y : AV} {r : Res AV} (h1 : D1 F H = .ok x H1) (h2 : D2 F H1 = .ok y H2) (h3 : getI x y H2 = r) : eItem D1 D2 F H = r := by
  unfold eItem; rw [h1]; show (D2 F H1).bind _ = _; rw [h2]; exact h3
theorem eCall_ok {A : AX} {D : List AV → Hp → Res AV} {F : Frm} {H H1 : Hp} {xs : List AV} {r : Res AV} (h1 : A F H = .ok xs H1) (h2 : D xs H1 = r) : eCall A D F H = r := by unfold eCall; rw [h1]; exact h2
theorem aC_ok {D : EX} {A : AX} {F : Frm} {H H1 H2 : Hp} {x : AV} {xs : List AV} (h1 : D F H = .ok x H1) (h2 : A F H1 = .ok xs H2) : aC D A F H = .ok (x :: xs) H2 := by
  unfold aC; rw [h1]; show (A F H1).bind _ = _; rw [h2]; rfl
theorem aN_ok {F : Frm} {H : Hp} : aN F H = .ok [] H := rfl
theorem eTup_ok {A : AX} {F : Frm} {H H1 : Hp} {xs : List AV} {r : Res AV} (h1 : A F H = .ok xs H1) (h2 : mkTup xs H1 = r) : eTup A F H = r := by unfold eTup; rw [h1]; exact h2
theorem eList_ok {A : AX} {F : Frm} {H H1 : Hp} {xs : List AV} {r : Res AV} (h1 : A F H = .ok xs H1) (h2 : mkList xs H1 = r) : eList A F H = r := by unfold eList; rw [h1]; exact h2
theorem bCmp_ok {f : AV → AV → Hp → Res AV} {D1 D2 : EX} {F : Frm} {H H1 H2 H3 : Hp} {x y : AV} {b : Bool} (h1 : D1 F H = .ok x H1) (h2 : D2 F H1 = .ok y H2) (h3 : f x y H2 = .ok (.bool b) H3) : bCmp f D1 D2 F H = .ok b H3 := by
  unfold bCmp; rw [h1]; show (D2 F H1).bind _ = _; rw [h2]; show (f x y H2).bind tv = _; rw [h3]; rfl
theorem fnD_ok {ps : List Nat} {xtra : List (Nat × AV)} {ccs : List Nat} {D : ST} {xs : List AV} {H H' : Hp} {v : AV} {F' : Frm} (hl : xs.length = ps.length)
    (h : D ⟨(ps.zip xs ++ xtra).filter fun p => !(ccs.contains p.1), (cellsD (ps.zip xs ++ xtra) ccs H).1⟩ (cellsD (ps.zip xs ++ xtra) ccs H).2 = .ret v F' H') : fnD ps xtra ccs D xs H = .ok v H' := by
  unfold fnD; rw [if_pos hl, h]; rfl
end Mine
end
-- M49
section
open PySem PySem.W PyProof.Rows PySem.Calls PySem.Spec
set_option Elab.async false
set_option linter.all false
namespace Mine
set_option maxRecDepth 100000
/-- the i-th statement of a function -/
noncomputable def sN (w : World) (f : Addr) (i : Nat) : Stmt := (bd w f).getD i default
noncomputable def stm (w : World) (K : Kx) (f : Addr) (tb : Tab) (i : Nat) : ST := (tr TT K 40).S ⟨(fd w f).scope, true, false, tb⟩ (sN w f i)
variable (w : World) (K : Kx)
theorem q_214 : fnK w TT K true (214, 3, none) = fnD [82, 18, 0] [] [] (tC (stm w K 214 (none) 0) (tC (stm w K 214 (none) 1) (tC (stm w K 214 (none) 2) (tC (stm w K 214 (none) 3) (tN))))) := by kernel_rfl
theorem q_566 : fnK w TT K true (566, 2, none) = fnD [11, 47] [] [] (tC (stm w K 566 (none) 0) (tC (stm w K 566 (none) 1) (tN))) := by kernel_rfl
theorem q_573 : fnK w TT K true (573, 2, none) = fnD [11, 47] [] [] (tC (stm w K 573 (none) 0) (tN)) := by kernel_rfl
theorem q_587 : fnK w TT K true (587, 3, none) = fnD [65, 18, 9] [] [] (tC (stm w K 587 (none) 0) (tC (stm w K 587 (none) 1) (tC (stm w K 587 (none) 2) (tN)))) := by kernel_rfl
theorem q_592 : fnK w TT K true (592, 1, none) = fnD [89] [] [] (tC (stm w K 592 (none) 0) (tN)) := by kernel_rfl
end Mine
end
-- M50
section
open PySem PySem.W PyProof.Rows PySem.Calls PySem.Spec
set_option Elab.async false
set_option linter.all false
namespace Mine
set_option maxRecDepth 100000
/-- the heap is as before -/
noncomputable def Same (H H1 : Hp) : Prop := ∀ i a, H.get i = some a → H1.get i = some a
noncomputable def AV.int? : AV → Option Int
  | .int i => Option.some i
  | _ => Option.none
noncomputable def AV.rf? : AV → Option Nat
  | .ref i => Option.some i
  | _ => Option.none
noncomputable def isIn (v : List AV) (l : List Int) : Prop := v = l.map AV.int
/-- the box after a draw -/
noncomputable def cntV (vs : List AV) (n : Int) : Int := match vs with
  | [] => n + 1
  | _ :: _ => n
noncomputable def drw (items : List Int) (n m : Int) : Int := match items with
  | [] => (5 * (n + 1) + (n + 1) / 3) % m
  | x :: _ => x % m
structure DrG (vs : List AV) (n q a : Int) : Prop where
  h : 0 < q ∧ ∃ items, isIn vs items ∧ items.length ≤ 100 ∧ drw items n q = a
noncomputable def mor (items : List Int) (m : Int) : Int := match items with
  | [] => 0
  | x :: _ => x % m
structure MoG (vs : List AV) (q a : Int) : Prop where
  h : 0 < q ∧ ∃ items, isIn vs items ∧ items.length ≤ 100 ∧ mor items q = a
-- the greatest priority, the least source
noncomputable def bst (c : Int → Bool) (r : Int → Int) : Int → List Int → Int → Int
  | _, [], f => f
  | b, x :: l, f => if c x && decide (b < r x) then bst c r (r x) l x else bst c r b l f
noncomputable def wiresF : Nat → Int → List Int
  | 0, _ => []
  | k + 1, x => x :: wiresF k (x + 1)
noncomputable def wires (n : Int) : List Int := wiresF n.toNat 1
noncomputable def rk (r : List Int) (x : Int) : Int := r.getD x.toNat 0
noncomputable def bitAt (m x : Int) : Bool := !decide (Builtin.bitAnd (m / 2 ^ x.toNat) 1 = 0)
noncomputable def mem (l : List Int) (x : Int) : Bool := l.any (· == x)
noncomputable def lawBest (n : Int) (up served lt ranks : List Int) (b : Int) : Int := bst (fun x => mem up x && !mem served x && mem lt x) (rk ranks) b (wires n) 0
noncomputable def plBest (n m : Int) (ranks : List Int) (b : Int) : Int := bst (bitAt m) (rk ranks) b (wires n) 0
noncomputable def bitsOf (l : List Int) : Int := (l.map fun x => (2 : Int) ^ x.toNat).sum
structure BeG (n : Int) (vu vs vl vr : List AV) (b a : Int) : Prop where
  h : 0 ≤ n ∧ n ≤ 31 ∧ ∃ up served lt ranks, isIn vu up ∧ isIn vs served ∧ isIn vl lt ∧ isIn vr ranks ∧ (n + 1).toNat ≤ ranks.length ∧ lawBest n up served lt ranks b = a
structure PbG (n lines sv : Int) (ve vr : List AV) (k b a : Int) : Prop where
  h : 0 ≤ n ∧ n ≤ 31 ∧ 0 ≤ k ∧ k < 100 ∧ ∃ en ranks, isIn ve en ∧ isIn vr ranks ∧ (n + 1).toNat ≤ ranks.length ∧ k.toNat < en.length ∧ plBest n (Builtin.bitAnd (Builtin.bitAnd lines (Builtin.bitNot sv)) (en.getD k.toNat 0)) ranks b = a
structure BiG (vs : List AV) (a : Int) : Prop where
  h : ∃ l, isIn vs l ∧ l.length < 64 ∧ (∀ x ∈ l, 0 ≤ x ∧ x ≤ 40) ∧ bitsOf l = a
/-- the readings' own numbers jump behind a foretold answer -/
noncomputable def bmp (H : Hp) : Hp := ⟨H.cells, H.next + 1000⟩
/-- the answers' numbers, base 32, stand above 10^9 in the next number; the answer at hand is told by the thousands -/
noncomputable def ansOf (o : Orc) (H : Hp) : Option Int := o.an[H.next / 1000000000 / 32 ^ (H.next % 1000000000 / 1000) % 32]?
noncomputable def plainK (K : Kx) : Kx := ⟨K.call, K.lam, K.scr, ⟨[], fun _ => none, fun _ => none⟩⟩
noncomputable def rf2 (x : AV) (k : Nat) : Bool := match x.rf? with
  | some i => i == k
  | none => false
/-- the box: (items, figure) -/
noncomputable def boxOf (H : Hp) : Option (List AV × Int) := (H.list 9).bind fun l => match l with
  | [x, y] => if rf2 x 8 then y.int?.bind fun n => (H.list 8).map fun vs => (vs, n) else none
  | _ => none
noncomputable abbrev RD := List AV → Hp → Res AV
noncomputable def lstAt (H : Hp) (v : Option AV) : Option (List AV) := v.bind fun x => x.rf?.bind H.list
noncomputable def vw1 : List AV → Option AV | [x] => some x | _ => none
noncomputable def vw2 : List AV → Option (AV × AV) | [x, y] => some (x, y) | _ => none
noncomputable def vw3 : List AV → Option (AV × AV × AV) | [x, y, z] => some (x, y, z) | _ => none
noncomputable def rfI (k : Nat) (x y : AV) : Option Int := if rf2 x k then y.int? else none
noncomputable def fldI (d : List (Nat × AV)) (k : Nat) : Option Int := (d.lookup k).bind AV.int?
noncomputable def plicD (H : Hp) : Option (List (Nat × AV)) := (H.inst 22).bind fun q => if q.1 = 266 then (H.dict q.2).bind fun d => (if (d.lookup 63).isSome then none else some d) else none
/-- a handler: what is told, under its guard -/
noncomputable def hnd (V : List AV → Hp → Option (Prop × Int × Hp)) (D : RD) : RD := fun xs H => match V xs H with
  | some r => .guard r.1 (.ok (.int r.2.1) (bmp r.2.2))
  | none => D xs H
noncomputable def takeV (o : Orc) (xs : List AV) (H : Hp) : Option (Prop × Int × Hp) := (vw2 xs).bind fun t => (rfI 9 t.1 t.2).bind fun q => (ansOf o H).bind fun a => (boxOf H).map fun b => (DrG b.1 b.2 q a, a, (H.set 8 (.list b.1.tail)).set 9 (.list [.ref 8, .int (cntV b.1 b.2)]))
noncomputable def moreV (o : Orc) (xs : List AV) (H : Hp) : Option (Prop × Int × Hp) := (vw2 xs).bind fun t => (rfI 9 t.1 t.2).bind fun q => (ansOf o H).bind fun a => (boxOf H).map fun b => (MoG b.1 q a, a, H.set 8 (.list b.1.tail))
noncomputable def bestV (o : Orc) (xs : List AV) (H : Hp) : Option (Prop × Int × Hp) := (vw3 xs).bind fun t => (rfI 10 t.1 t.2.1).bind fun k => t.2.2.int?.bind fun b => (ansOf o H).bind fun a => (H.pd 10).bind fun d => (fldI d 89).bind fun n => (lstAt H (d.lookup 102)).bind fun vu => (lstAt H (d.lookup 83)).bind fun vs => (lstAt H (d.lookup 44)).bind fun ls => (if 0 ≤ k ∧ k < 100 then lstAt H ls[k.toNat]? else none).bind fun vl => (lstAt H (d.lookup 75)).map fun vr => (BeG n vu vs vl vr b a, a, H)
noncomputable def pbestV (o : Orc) (xs : List AV) (H : Hp) : Option (Prop × Int × Hp) := (vw3 xs).bind fun t => (rfI 22 t.1 t.2.1).bind fun k => t.2.2.int?.bind fun b => (ansOf o H).bind fun a => (plicD H).bind fun d => (fldI d 89).bind fun n => (fldI d 45).bind fun li => (fldI d 83).bind fun sv => (lstAt H (d.lookup 25)).bind fun ve => (lstAt H (d.lookup 68)).map fun vr => (PbG n li sv ve vr k b a, a, H)
noncomputable def bitsV (o : Orc) (xs : List AV) (H : Hp) : Option (Prop × Int × Hp) := (vw1 xs).bind fun x => (lstAt H (some x)).bind fun vs => (ansOf o H).map fun a => (BiG vs a, a, H)
noncomputable def plain2 (w : World) (K : Kx) : Kx := ⟨fun nh f => callK w TT K nh f FT, K.lam, K.scr, ⟨[], fun _ => none, fun _ => none⟩⟩
noncomputable def orH (o : Orc) (f : Addr) (D0 D2 D : RD) : RD := if f = 566 then hnd (takeV o) D0 else if f = 587 then hnd (bestV o) D0 else if f = 592 then hnd (bitsV o) D0 else if f = 214 then hnd (pbestV o) D2 else if f = 573 then hnd (moreV o) D0 else D
noncomputable def stepO (w : World) (scr : Addr × List Int) (o : Orc) (K : Kx) : Kx := ⟨fun nh f => if nh then orH o f (callK w TT (plainK K) nh f FT) (callK w TT (plain2 w K) nh f FT) (callK w TT K nh f FT) else callK w TT K nh f FT, fun nh body sc => (tr TT K 40).E ⟨sc, nh, false, none⟩ body, scr, o⟩
noncomputable def KO (w : World) (scr : Addr × List Int) (o : Orc) : Nat → Kx
  | 0 => ⟨fun _ _ _ _ => .stuck, fun _ _ _ => eX, scr, o⟩
  | n + 1 => stepO w scr o (KO w scr o n)
noncomputable def gds (l : List Prop) (r : Res AV) : Res AV := l.foldr Res.guard r
end Mine
end
-- M51
section
open PySem PySem.W PyProof.Rows PySem.Calls PySem.Spec
set_option Elab.async false
set_option linter.all false
namespace Mine
set_option maxRecDepth 100000
-- the lambdas and the comprehensions of a text, in order
noncomputable def lamsE : Nat → Expr → List (Bool × Expr × Scope)
  | 0, _ => []
  | k + 1, e => match e with
    | .Lambda _ b sc _ => [(true, b, sc)]
    | .ListComp e g sc _ => (false, e, sc) :: (g.flatMap fun c => lamsE k c.iter) ++ lamsE k e
    | .Call f as _ _ => lamsE k f ++ as.flatMap (lamsE k)
    | .Compare l _ rs _ => lamsE k l ++ rs.flatMap (lamsE k)
    | .List es _ => es.flatMap (lamsE k)
    | .Tuple es _ _ => es.flatMap (lamsE k)
    | .BinOp l _ r _ => lamsE k l ++ lamsE k r
    | .UnaryOp _ x _ => lamsE k x
    | .BoolOp _ es _ => es.flatMap (lamsE k)
    | .IfExp c b o _ => lamsE k c ++ lamsE k b ++ lamsE k o
    | .Subscript v i _ => lamsE k v ++ lamsE k i
    | _ => []
noncomputable def lamsS : Nat → Stmt → List (Bool × Expr × Scope)
  | 0, _ => []
  | k + 1, s => match s with
    | .Return (some e) _ => lamsE 20 e
    | .Expr e _ => lamsE 20 e
    | .Assign _ e _ => lamsE 20 e
    | .If c b o _ => lamsE 20 c ++ b.flatMap (lamsS k) ++ o.flatMap (lamsS k)
    | .For _ it b _ _ => lamsE 20 it ++ b.flatMap (lamsS k)
    | _ => []
noncomputable def cmpS (w : World) (f : Addr) (i : Nat) : Scope := ((((bd w f).flatMap (lamsS 20)).filter (!·.1)).getD i (true, default, default)).2.2
variable (w : World) (K : Kx)
theorem e_566_0 : stm w (plainK K) 566 (none) 0 = tIf (bCmp (cmpD TT .Gt) (eCall (aC (eItem (getV 11) (eK (.int 0))) (aN)) (altN fLen (lenG K.scr))) (eK (.int 0))) (tC (tName (stL 27) (eLm popD (eItem (getV 11) (eK (.int 0))) (eK (.int 0)))) (tN)) (tC (tSub setI (eBin (binD .Add) (eItem (getV 11) (eK (.int 1))) (eK (.int 1))) (getV 11) (eK (.int 1))) (tC (tName (stL 27) (eBin (binD .Add) (eBin (binD .Mult) (eK (.int 5)) (eItem (getV 11) (eK (.int 1)))) (eBin (binD .FloorDiv) (eItem (getV 11) (eK (.int 1))) (eK (.int 3))))) (tN))) := by kernel_rfl
theorem e_566_1 : stm w (plainK K) 566 (none) 1 = tRet (eBin (binD .Mod) (getV 27) (getV 47)) := by kernel_rfl
theorem e_573_0 : stm w (plainK K) 573 (none) 0 = tRet (eIf (bCmp (cmpD TT .Gt) (eCall (aC (eItem (getV 11) (eK (.int 0))) (aN)) (altN fLen (lenG K.scr))) (eK (.int 0))) (eBin (binD .Mod) (eLm popD (eItem (getV 11) (eK (.int 0))) (eK (.int 0))) (getV 47)) (eK (.int 0))) := by kernel_rfl
theorem e_592_0 : stm w (plainK K) 592 (none) 0 = tRet (eCall (aC (eComp 107 (cmpS w 592 0) (eCall (aC (getV 89) (aN)) (fSorted)) (bAndN) (eBin (binD .Pow) (eK (.int 2)) (getV 107))) (aN)) (fSum)) := by kernel_rfl
theorem e_587_1 : stm w (plainK K) 587 (none) 1 = tFor (stL 107) (eCall (aC (eK (.int 1)) (aC (eBin (binD .Add) (eItem (getV 65) (eK (.str 89))) (eK (.int 1))) (aN))) (fRange)) (tC (tIf (bAndC (bCmp (cmpD TT .In) (getV 107) (eItem (getV 65) (eK (.str 102)))) (bAndC (bCmp (cmpD TT .NotIn) (getV 107) (eItem (getV 65) (eK (.str 83)))) (bAndC (bCmp (cmpD TT .In) (getV 107) (eItem (eItem (getV 65) (eK (.str 44))) (getV 18))) (bAndN)))) (tC (tIf (bCmp (cmpD TT .Gt) (eItem (eItem (getV 65) (eK (.str 75))) (getV 107)) (getV 9)) (tC (tE (eLm appD (getV 80) (eTup (aC (eUn (unD .USub) (eItem (eItem (getV 65) (eK (.str 75))) (getV 107))) (aC (getV 107) (aN)))))) (tN)) (tN)) (tN)) (tN)) (tN)) := by kernel_rfl
theorem e_587_2 : stm w (plainK K) 587 (none) 2 = tRet (eIf (bCmp (cmpD TT .NotEq) (getV 80) (eList (aN))) (eItem (eCall (aC (getV 80) (aN)) (altN fMin fMinP)) (eK (.int 1))) (eK (.int 0))) := by kernel_rfl
theorem e_214_0 : stm w (plain2 w K) 214 (none) 0 = tSwp 2 (vC (stL 50) (vC (stL 28) (vN))) (eTup (aC (eK (.int 0)) (aC (getV 0) (aN)))) := by kernel_rfl
theorem e_214_1 : stm w (plain2 w K) 214 (none) 1 = tName (stL 44) (eBin (binD .BitAnd) (eMeth0 63 [(266, 207, callK w TT K true 207 FT)] (getV 82)) (eItem (eAttr (alt1 (getA [266] 25) (getX [] 25)) (getV 82)) (getV 18))) := by kernel_rfl
theorem e_214_2 : stm w (plain2 w K) 214 (none) 2 = tFor (stL 88) (eCall (aC (eK (.int 1)) (aC (eBin (binD .Add) (eAttr (alt1 (getA [266] 89) (getX [] 89)) (getV 82)) (eK (.int 1))) (aN))) (fRange)) (tC (tIf (bAndC (bP (eBin (binD .BitAnd) (eBin (binD .RShift) (getV 44) (getV 88)) (eK (.int 1)))) (bAndC (bCmp (cmpD TT .Gt) (eItem (eAttr (alt1 (getA [266] 68) (getX [] 68)) (getV 82)) (getV 88)) (getV 50)) (bAndN))) (tC (tSwp 2 (vC (stL 50) (vC (stL 28) (vN))) (eTup (aC (getV 88) (aC (eItem (eAttr (alt1 (getA [266] 68) (getX [] 68)) (getV 82)) (getV 88)) (aN))))) (tN)) (tN)) (tN)) := by kernel_rfl
theorem e_214_3 : stm w (plain2 w K) 214 (none) 3 = tRet (getV 28) := by kernel_rfl
theorem e_207_0 : stm w K 207 (none) 0 = tRet (eBin (binD .BitAnd) (eAttr (alt1 (getA [266] 45) (getX [] 45)) (getV 82)) (eUn (unD .Invert) (eAttr (alt1 (getA [266] 83) (getX [] 83)) (getV 82)))) := by kernel_rfl
theorem q_207 : fnK w TT K true (207, 1, none) = fnD [82] [] [] (tC (stm w K 207 (none) 0) (tN)) := by kernel_rfl
noncomputable def dLin : EX := eComp 59 (cmpS w 623 0) (eItem (getV 65) (eK (.str 102))) (bCmp (cmpD TT .NotEq) (getV 59) (getC 107)) (getV 59)
noncomputable def dDone : EX := eComp 59 (cmpS w 635 0) (eItem (getV 65) (eK (.str 83))) (bCmp (cmpD TT .NotEq) (getV 59) (getC 107)) (getV 59)
noncomputable def dAl : EX := eComp 59 (cmpS w 654 0) (eItem (getC 65) (eK (.str 102))) (bCmp (cmpD TT .NotIn) (getV 59) (eItem (getC 65) (eK (.str 83)))) (getV 59)
noncomputable def dLet : EX := eComp 107 (cmpS w 618 0) (eCall (aC (eK (.int 1)) (aC (eBin (binD .Add) (eItem (getV 65) (eK (.str 89))) (eK (.int 1))) (aN))) (fRange)) (bCmp (cmpD TT .Eq) (eBin (binD .Mod) (eBin (binD .FloorDiv) (getC 103) (eBin (binD .Pow) (eK (.int 2)) (getV 107))) (eK (.int 2))) (eK (.int 1))) (getV 107)
end Mine
end
-- M60
section
open PySem PySem.W PyProof.Rows PySem.Calls PySem.Spec
set_option Elab.async false
set_option linter.all false
namespace Mine
set_option maxRecDepth 100000
noncomputable def LS.nx (S : LS) : LS := { S with items := S.items.tail, bx := cntV S.items S.bx }
/-- the guard of a draw -/
noncomputable def LS.G (S : LS) (q a : Int) : Prop := DrG S.items S.bx q a
noncomputable def dropG : List (Nat × AO) → List (Nat × AO)
  | [] => []
  | p :: l => if Nat.ble 42 p.1 then dropG l else p :: l
/-- what a reading comes to -/
noncomputable def chk (r : Res AV) : Option (List Prop × AV × List (Nat × AO)) := Res.rec (motive := fun _ => Option (List Prop × AV × List (Nat × AO))) (fun v H => some ([], v, dropG H.cells)) (fun _ _ => none) none (fun p _ ih => ih.map fun q => (p :: q.1, q.2)) r
theorem dropG_split : ∀ l : List (Nat × AO), ∃ g, l = g ++ dropG l ∧ ∀ p ∈ g, 42 ≤ p.1
  | [] => ⟨[], rfl, fun _ h => nomatch h⟩
  | p :: l => by
    unfold dropG
    cases e : Nat.ble 42 p.1 with
    | true =>
      refine xe12 (dropG_split l) fun g h1 h2 => ?_
      refine ⟨p :: g, ?_, fun q hq => ?_⟩
      · rw [if_pos rfl, List.cons_append, ← h1]
      · rcases List.mem_cons.mp hq with rfl | hq
        · exact Nat.le_of_ble_eq_true e
        · exact h2 q hq
    | false => exact ⟨[], by rw [if_neg (by decide)]; rfl, fun _ h => nomatch h⟩
theorem chk_some {r : Res AV} {q : List Prop × AV × List (Nat × AO)} (h : chk r = some q) : ∃ g k, r = gds q.1 (.ok q.2.1 ⟨g ++ q.2.2, k⟩) ∧ ∀ p ∈ g, 42 ≤ p.1 := by
  induction r generalizing q with
  | ok x H =>
    obtain rfl := Option.some.inj h
    refine xe12 (dropG_split H.cells) fun g h1 h2 => ?_
    refine ⟨g, H.next, ?_, h2⟩
    show _ = Res.ok _ _
    rw [← h1]
  | exc e H => exact no_some9 h
  | stuck => exact no_some9 h
  | guard p r ih =>
    obtain ⟨q, h1, rfl⟩ := Option.map_eq_some_iff.mp (show (chk r).map (fun q => (p :: q.1, q.2)) = _ from h)
    refine xe22 (ih h1) fun g k h3 h4 => ?_
    exact ⟨g, k, congrArg (Res.guard p) h3, h4⟩
noncomputable def gdsS (l : List Prop) (r : RS) : RS := l.foldr RS.guard r
/-- equal told figures, as the machine says it -/
noncomputable def eq1 (a b : Int) : Bool := (((a == b) && true) && true) == true
theorem eq1_true {a b : Int} (h : a = b) : eq1 a b = true := by subst h; unfold eq1; rw [beq_self_eq_true]; rfl
-- the comprehensions foretold
noncomputable def rfAt (v : Option AV) (k : Nat) : Bool := match v with
  | some x => rf2 x k
  | none => false
noncomputable def cInt (F : Frm) (H : Hp) (x : Nat) : Option Int := (F.cl.lookup x).bind fun i => (H.cell i).bind fun o => o.bind AV.int?
noncomputable def hFil (key wr : Nat) (res : List AV) : CH where
  pre := fun F H => if rfAt (F.loc.lookup 65) 10 then (H.pd 10).bind fun d => (lstAt H (d.lookup key)).bind fun vs => (cInt F H wr).map fun k => (vs, [], k, 0) else none
  g := fun H => .ok (.ref (H.next + 1)) ⟨(H.next + 1, .list res) :: H.cells, H.next + 2⟩
noncomputable def hSub (res : List AV) : CH where
  pre := fun F H => if ((F.cl.lookup 65).bind fun i => (H.cell i).map fun o => rfAt o 10) == some true then (H.pd 10).bind fun d => (lstAt H (d.lookup 102)).bind fun vs => (lstAt H (d.lookup 83)).map fun us => (vs, us, 0, 0) else none
  g := fun H => .ok (.ref (H.next + 1)) ⟨(H.next + 1, .list res) :: H.cells, H.next + 2⟩
noncomputable def hLet (n : Int) (res : List AV) : CH where
  pre := fun F H => if rfAt (F.loc.lookup 65) 10 then (H.pd 10).bind fun d => ((d.lookup 89).bind AV.int?).bind fun n => (cInt F H 103).map fun v => ([], [], v, n) else none
  g := fun H => .ok (.ref (H.next + 2)) ⟨(H.next + 2, .list res) :: (H.next, .range 1 (n + 1)) :: H.cells, H.next + 3⟩
noncomputable def cp1 (k : Nat) (h : CH) : Nat → Option CH := fun i => if i = k then some h else none
noncomputable def bp2 (k : Nat) (b : Bool) (k' : Nat) (b' : Bool) : Nat → Option Bool := fun i => if i = k then some b else if i = k' then some b' else none
noncomputable def an0 (l : List Int) : List Int := 0 :: 1 :: 2 :: 3 :: 4 :: 5 :: 6 :: 7 :: 8 :: l
noncomputable def orc0 (l : List Int) : Orc := ⟨0 :: 1 :: 2 :: 3 :: 4 :: 5 :: 6 :: 7 :: 8 :: l, fun _ => none, fun _ => none⟩
noncomputable def orc1 (l : List Int) : Orc := ⟨0 :: 1 :: 2 :: 3 :: 4 :: 5 :: 6 :: 7 :: 8 :: l, fun _ => none, fun k => if k = 100162 then some false else if k = 100177 then some false else none⟩
noncomputable def cB (l : List Nat) : Nat := l.foldr (fun d a => d + 32 * a) 0 * 1000000000
/-- the deed, its answers told -/
noncomputable def deed (w : World) (scr : Addr × List Int) (o : Orc) (r : Nat) (l : List Nat) (n c : Int) (S : LS) (m j : Int) : Option (List Prop × AV × List (Nat × AO)) :=
  chk (fnK w TT (KO w scr o (r + 10)) true (649, 5, none) [.ref 9, .ref 27, .ref 20, .ref 22, .ref 10] ⟨(hp n c S m j).cells, cB l + 42⟩)
noncomputable def orc2 (l : List Int) (res : List AV) : Orc := ⟨an0 l, cp1 503 (hSub res), fun k => if k = 100162 then some false else if k = 499 then some false else if k = 501 then some false else if k = 503 then some false else if k = 506 then some false else none⟩
/-- the comparison behind a deed -/
noncomputable def alike (w : World) (scr : Addr × List Int) (o : Orc) (r : Nat) (l : List Nat) (n c : Int) (S : LS) (m j : Int) : Option (List Prop × AV × List (Nat × AO)) :=
  chk (fnK w TT (KO w scr o (r + 10)) true (654, 4, none) [.ref 27, .ref 20, .ref 22, .ref 10] ⟨(hp n c S m j).cells, cB l + 42⟩)
structure Cx where
  lt : List AV
  ls : Int
  en : Int
  th : Int
noncomputable def chkq (i : Nat) (r : Res AV) : Option (List Prop × AV × List (Nat × AO) × Option AO) := Res.rec (motive := fun _ => Option (List Prop × AV × List (Nat × AO) × Option AO)) (fun v H => some ([], v, dropG H.cells, getO i H.cells)) (fun _ _ => none) none (fun p _ ih => ih.map fun q => (p :: q.1, q.2)) r
theorem chkq_some {i : Nat} {r : Res AV} {q : List Prop × AV × List (Nat × AO) × Option AO} (h : chkq i r = some q) : ∃ g k, r = gds q.1 (.ok q.2.1 ⟨g ++ q.2.2.1, k⟩) ∧ (∀ p ∈ g, 42 ≤ p.1) ∧ getO i (g ++ q.2.2.1) = q.2.2.2 := by
  induction r generalizing q with
  | ok x H =>
    obtain rfl := Option.some.inj h
    refine xe12 (dropG_split H.cells) fun g h1 h2 => ?_
    refine ⟨g, H.next, ?_, h2, congrArg (getO i) h1.symm⟩
    show _ = Res.ok _ _
    rw [← h1]
  | exc e H => exact no_some9 h
  | stuck => exact no_some9 h
  | guard p r ih =>
    obtain ⟨q, h1, rfl⟩ := Option.map_eq_some_iff.mp (show (chkq i r).map (fun q => (p :: q.1, q.2)) = _ from h)
    refine xe23 (ih h1) fun g k h3 h4 h5 => ?_
    exact ⟨g, k, congrArg (Res.guard p) h3, h4, h5⟩
noncomputable def deedq (i : Nat) (w : World) (scr : Addr × List Int) (o : Orc) (r : Nat) (l : List Nat) (n c : Int) (S : LS) (m j : Int) : Option (List Prop × AV × List (Nat × AO) × Option AO) :=
  chkq (cB l + i) (fnK w TT (KO w scr o (r + 10)) true (649, 5, none) [.ref 9, .ref 27, .ref 20, .ref 22, .ref 10] ⟨(hp n c S m j).cells, cB l + 42⟩)
noncomputable def S1 (S : LS) (x : Cx) : LS := { S with iu := 12, is := 13, il := [33], lets := [x.lt], least := [x.ls], en := [x.en], th := [x.th] }
noncomputable def S2 (S : LS) (x y : Cx) : LS := { S with iu := 12, is := 13, il := [33, 34], lets := [x.lt, y.lt], least := [x.ls, y.ls], en := [x.en, y.en], th := [x.th, y.th] }
noncomputable def nxk (S : LS) : Nat → LS
  | 0 => S
  | k + 1 => nxk S.nx k
theorem each2 {β : Type} {f g : Nat → Nat → β} {l1 : List Nat} {l2 : Nat → List Nat} (h : each (fun a => each (f a) (l2 a)) l1 = l1.map fun a => (l2 a).map (g a)) : ∀ a ∈ l1, ∀ b ∈ l2 a, f a b = g a b := fun a ha => each_map (each_map h a ha)
theorem each3 {β : Type} {f g : Nat → Nat → Nat → β} {l1 : List Nat} {l2 : Nat → List Nat} {l3 : Nat → Nat → List Nat} (h : each (fun a => each (fun b => each (f a b) (l3 a b)) (l2 a)) l1 = l1.map fun a => (l2 a).map fun b => (l3 a b).map (g a b)) : ∀ a ∈ l1, ∀ b ∈ l2 a, ∀ c ∈ l3 a b, f a b c = g a b c := fun a ha => each2 (each_map h a ha)
theorem each4 {β : Type} {f g : Nat → Nat → Nat → Nat → β} {l1 : List Nat} {l2 : Nat → List Nat} {l3 : Nat → Nat → List Nat} {l4 : Nat → Nat → Nat → List Nat} (h : each (fun a => each (fun b => each (fun c => each (f a b c) (l4 a b c)) (l3 a b)) (l2 a)) l1 = l1.map fun a => (l2 a).map fun b => (l3 a b).map fun c => (l4 a b c).map (g a b c)) : ∀ a ∈ l1, ∀ b ∈ l2 a, ∀ c ∈ l3 a b, ∀ d ∈ l4 a b c, f a b c d = g a b c d := fun a ha => each3 (each_map h a ha)
/-- the state with its contexts -/
noncomputable def ZC (S : LS) (zs : List Cx) : LS := { S with iu := 12, is := 13, il := [33, 34].take zs.length, lets := zs.map Cx.lt, least := zs.map Cx.ls, en := zs.map Cx.en, th := zs.map Cx.th }
noncomputable def zAt (zs : List Cx) (k : Nat) : Cx := zs.getD k ⟨[], 0, 0, 0⟩
noncomputable def Zs (c : Nat) (zs : List Cx) : Prop := (c = 1 ∧ ∃ x, zs = [x]) ∨ (c = 2 ∧ ∃ x y, zs = [x, y])
end Mine
end
-- M61
section
open PySem PySem.W PyProof.Rows PySem.Calls PySem.Spec
set_option Elab.async false
set_option linter.all false
namespace Mine
set_option maxRecDepth 100000
-- the clock's registers: read and written
noncomputable def vv (k : Nat) (v : Int) : Int := match k with | 0 => Builtin.bitAnd v 4294967295 | _ + 1 => v + 12884901888
noncomputable def rdA (T : LS) (i : Nat) : Int := match i with
  | 0 => Builtin.bitAnd T.msoft 4294967295
  | 1 => Builtin.bitAnd (Builtin.bitAnd T.mwait 4294967295) 4294967295
  | 2 => Builtin.bitAnd (T.mwait / 4294967296) 4294967295
  | 3 => Builtin.bitAnd (Builtin.bitAnd T.mtime 4294967295) 4294967295
  | _ => Builtin.bitAnd (T.mtime / 4294967296) 4294967295
noncomputable def rdB (T : LS) (i : Nat) : Int := match i with
  | 0 => T.soft
  | 1 => T.wait / 1 % 4294967296
  | 2 => T.wait / 4294967296 % 4294967296
  | 3 => T.time / 1 % 4294967296
  | _ => T.time / 4294967296 % 4294967296
noncomputable def wLo (a q : Int) : Int := Builtin.bitOr (a / 4294967296 * 4294967296) (Builtin.bitAnd q 4294967295)
noncomputable def wHi (a q : Int) : Int := Builtin.bitOr (Builtin.bitAnd q 4294967295 * 4294967296) (Builtin.bitAnd a 4294967295)
noncomputable def wrS (U : LS) (v q : Int) (i : Nat) : LS := match i with
  | 0 => { U with soft := v % 2, msoft := Builtin.bitAnd q 1 }
  | 1 => { U with wait := v + 4294967296 * (U.wait / 4294967296), mwait := wLo U.mwait q }
  | 2 => { U with wait := U.wait % 4294967296 + 4294967296 * v, mwait := wHi U.mwait q }
  | 3 => { U with time := v + 4294967296 * (U.time / 4294967296), mtime := wLo U.mtime q }
  | _ => { U with time := U.time % 4294967296 + 4294967296 * v, mtime := wHi U.mtime q }
noncomputable def wrG (a : Int) : List Prop := [0 ≤ (32 : Int) ∧ (32 : Int) ≤ 1000 ∧ a.natAbs < 2 ^ 64]
noncomputable def wrL (T : LS) (q : Int) (i : Nat) : List Prop := match i with
  | 0 => []
  | 1 => wrG (T.mwait / 4294967296)
  | 2 => wrG (Builtin.bitAnd q 4294967295)
  | 3 => wrG (T.mtime / 4294967296)
  | _ => wrG (Builtin.bitAnd q 4294967295)
noncomputable def tkN (i : Nat) : Int := match i with | 0 => 1 | 1 => 4294967295 | 2 => 18446744073709551615 | _ => 9223372036854775808
noncomputable def tkS (U : LS) (k : Int) : LS := { U with time := (U.time + k) % 18446744073709551616, mtime := Builtin.bitAnd (U.mtime + k) 18446744073709551615 }
noncomputable def tkW (U : LS) (v : Int) : LS := { U with wait := (U.time + v - 1) % 18446744073709551616, mwait := Builtin.bitAnd ((U.time + v - 1) % 18446744073709551616 + 18446744073709551616) 18446744073709551615 }
noncomputable def okE (n : Int) (c : Nat) (gs : List Prop) (b : Bool) (T : LS) (m j : Int) : Option (List Prop × AV × List (Nat × AO)) := some (gs, .bool b, (hp n c T m j).cells)
section
variable (w : World) (scr : Addr × List Int) (r : Nat) (T : LS) (n m j : Int) (c : Nat) (x1 v : Int)
noncomputable def ckrD (a i : Nat) := deed w scr (orc0 [x1, v]) r [a, 9, i, 10, 0] n c T m j
noncomputable def ckrE (a i : Nat) := okE n c [(nxk T 0).G 9 a, (nxk T 1).G c x1, (nxk T 2).G 5 i, (nxk T 3).G 4294967296 v, (nxk T 4).G 2 0] (eq1 (rdA T i) (rdB T i)) (nxk T 5) m j
noncomputable def ckwD (a i k : Nat) := deed w scr (orc0 [x1, v]) r [a, 9, i, 10, 1, k] n c T m j
noncomputable def ckwE (a i k : Nat) := okE n c ([(nxk T 0).G 9 a, (nxk T 1).G c x1, (nxk T 2).G 5 i, (nxk T 3).G 4294967296 v, (nxk T 4).G 2 1, (nxk T 5).G 2 k] ++ wrL T (vv k v) i) true (wrS (nxk T 6) v (vv k v) i) m j
noncomputable def tk1D (i : Nat) := deed w scr (orc0 [x1]) r [2, 9, i, 1] n c T m j
noncomputable def tk1E (i : Nat) := okE n c [(nxk T 0).G 9 2, (nxk T 1).G c x1, (nxk T 2).G 4 i, (nxk T 3).G 2 1] true (tkS (nxk T 4) (tkN i)) m j
noncomputable def tk0D (i : Nat) := deed w scr (orc0 [x1, v]) r [2, 9, i, 0, 10] n c T m j
noncomputable def tk0E (i : Nat) := okE n c [(nxk T 0).G 9 2, (nxk T 1).G c x1, (nxk T 2).G 4 i, (nxk T 3).G 2 0, (nxk T 4).G 3 v] true (tkW (tkS (nxk T 5) (tkN i)) v) m j
end
section
variable (w : World) (scr : Addr × List Int) {m j : Int} {S : LS} {x y : Cx} {x1 v n : Int} (r : Nat)
theorem ckr_1 : each (fun a => each (ckrD w scr r (S1 S x) n m j 1 x1 v a) (List.range 5)) (List.range 2) = (List.range 2).map fun a => (List.range 5).map (ckrE (S1 S x) n m j 1 x1 v a) := by kernel_rfl
theorem ckr_2 : each (fun a => each (ckrD w scr r (S2 S x y) n m j 2 x1 v a) (List.range 5)) (List.range 2) = (List.range 2).map fun a => (List.range 5).map (ckrE (S2 S x y) n m j 2 x1 v a) := by kernel_rfl
theorem ckw_1 : each (fun a => each (fun i => each (ckwD w scr r (S1 S x) n m j 1 x1 v a i) (List.range 2)) (List.range 5)) (List.range 2) = (List.range 2).map fun a => (List.range 5).map fun i => (List.range 2).map (ckwE (S1 S x) n m j 1 x1 v a i) := by kernel_rfl
theorem ckw_2 : each (fun a => each (fun i => each (ckwD w scr r (S2 S x y) n m j 2 x1 v a i) (List.range 2)) (List.range 5)) (List.range 2) = (List.range 2).map fun a => (List.range 5).map fun i => (List.range 2).map (ckwE (S2 S x y) n m j 2 x1 v a i) := by kernel_rfl
theorem tk1_1 : each (tk1D w scr r (S1 S x) n m j 1 x1) (List.range 4) = (List.range 4).map (tk1E (S1 S x) n m j 1 x1) := by kernel_rfl
theorem tk1_2 : each (tk1D w scr r (S2 S x y) n m j 2 x1) (List.range 4) = (List.range 4).map (tk1E (S2 S x y) n m j 2 x1) := by kernel_rfl
theorem tk0_1 : each (tk0D w scr r (S1 S x) n m j 1 x1 v) (List.range 4) = (List.range 4).map (tk0E (S1 S x) n m j 1 x1 v) := by kernel_rfl
theorem tk0_2 : each (tk0D w scr r (S2 S x y) n m j 2 x1 v) (List.range 4) = (List.range 4).map (tk0E (S2 S x y) n m j 2 x1 v) := by kernel_rfl
end
end Mine
end
-- M62
section
open PySem PySem.W PyProof.Rows PySem.Calls PySem.Spec
set_option Elab.async false
set_option linter.all false
namespace Mine
set_option maxRecDepth 100000
-- a source's rank is set
noncomputable def rkT (T : LS) (N : Nat) (f : Nat → Int) : LS := { T with ranks := (List.range (N + 1)).map f, prio := (List.range (N + 1)).map f }
noncomputable def rkS (U : LS) (v : Int) (k : Nat) : LS := match k with | 0 => U | k + 1 => { U with ranks := U.ranks.set (k + 1) (v % 8), prio := U.prio.set (k + 1) (Builtin.bitAnd (Builtin.bitAnd v 4294967295) 7) }
noncomputable def rkB (f : Nat → Int) (v : Int) (k : Nat) : Bool := match k with | 0 => (Builtin.bitAnd (f 0) 4294967295 == 0) == true | _ + 1 => (Builtin.bitAnd (Builtin.bitAnd (Builtin.bitAnd v 4294967295) 7) 4294967295 == v % 8) == true
section
variable (w : World) (scr : Addr × List Int) (r : Nat) (T : LS) (m j : Int) (c : Nat) (x1 v : Int) (f : Nat → Int)
noncomputable def rnkD (N k : Nat) := deed w scr (orc0 [x1, v]) r [4, 9, k, 10] N c (rkT T N f) m j
noncomputable def rnkE (N k : Nat) := okE N c [(nxk T 0).G 9 4, (nxk T 1).G c x1, (nxk T 2).G ((N + 1 : Nat) : Int) k, (nxk T 3).G 9 v] (rkB f v k) (rkS (rkT (nxk T 4) N f) v k) m j
end
section
variable (w : World) (scr : Addr × List Int) {m j : Int} {S : LS} {x y : Cx} {x1 v n : Int} (r : Nat)
theorem rnk_1 {f : Nat → Int} : each (fun N => each (rnkD w scr r (S1 S x) m j 1 x1 v f N) (List.range (N + 1))) [3, 7, 4] = [3, 7, 4].map fun N => (List.range (N + 1)).map (rnkE (S1 S x) m j 1 x1 v f N) := by kernel_rfl
theorem rnk_2 {f : Nat → Int} : each (fun N => each (rnkD w scr r (S2 S x y) m j 2 x1 v f N) (List.range (N + 1))) [3, 7, 4] = [3, 7, 4].map fun N => (List.range (N + 1)).map (rnkE (S2 S x y) m j 2 x1 v f N) := by kernel_rfl
end
end Mine
end
-- M63
section
open PySem PySem.W PyProof.Rows PySem.Calls PySem.Spec
set_option Elab.async false
set_option linter.all false
namespace Mine
set_option maxRecDepth 100000
-- what there is not
noncomputable def wrP (a : Nat) (n : Int) : List Prop := match a with
  | 3 => [decide (4100 ≤ 4 * n) = false, decide (4100 ≤ 4 * n) = false]
  | 4 => [decide (8256 ≤ 4 * n) = false, decide (8256 ≤ 4 * n) = false]
  | 5 => [decide (2097160 ≤ 4 * n) = false, decide (2097160 ≤ 4 * n) = false]
  | _ => []
section
variable (w : World) (scr : Addr × List Int) (r : Nat) (T : LS) (m j : Int) (c : Nat) (x1 : Int)
noncomputable def wroD (n : Int) (a b e : Nat) := deed w scr (orc1 [x1]) r [3, 9, a, b, e] n c T m j
noncomputable def wroE (n : Int) (a b e : Nat) := okE n c ([(nxk T 0).G 9 3, (nxk T 1).G c x1, decide (4096 ≤ 4 * n) = false, (nxk T 2).G 6 a] ++ wrP a n ++ [(nxk T 3).G 4 b, (nxk T 4).G 2 e]) true (nxk T 5) m j
noncomputable def wr2D (N b e : Nat) := deed w scr (orc0 [x1]) r [3, 9, 2, b, e] N c T m j
noncomputable def wr2E (N b e : Nat) := okE N c [(nxk T 0).G 9 3, (nxk T 1).G c x1, (nxk T 2).G 6 2, (nxk T 3).G 4 b, (nxk T 4).G 2 e] true (nxk T 5) m j
end
section
variable (w : World) (scr : Addr × List Int) {m j : Int} {S : LS} {x y : Cx} {x1 v n : Int} (r : Nat)
theorem wro_1 : each (fun a => each (fun b => each (wroD w scr r (S1 S x) m j 1 x1 n a b) (List.range 2)) (List.range 4)) [0, 1, 3, 4, 5] = [0, 1, 3, 4, 5].map fun a => (List.range 4).map fun b => (List.range 2).map (wroE (S1 S x) m j 1 x1 n a b) := by kernel_rfl
theorem wro_2 : each (fun a => each (fun b => each (wroD w scr r (S2 S x y) m j 2 x1 n a b) (List.range 2)) (List.range 4)) [0, 1, 3, 4, 5] = [0, 1, 3, 4, 5].map fun a => (List.range 4).map fun b => (List.range 2).map (wroE (S2 S x y) m j 2 x1 n a b) := by kernel_rfl
theorem wr2_1 : each (fun N => each (fun b => each (wr2D w scr r (S1 S x) m j 1 x1 N b) (List.range 2)) (List.range 4)) [3, 7, 4] = [3, 7, 4].map fun N => (List.range 4).map fun b => (List.range 2).map (wr2E (S1 S x) m j 1 x1 N b) := by kernel_rfl
theorem wr2_2 : each (fun N => each (fun b => each (wr2D w scr r (S2 S x y) m j 2 x1 N b) (List.range 2)) (List.range 4)) [3, 7, 4] = [3, 7, 4].map fun N => (List.range 4).map fun b => (List.range 2).map (wr2E (S2 S x y) m j 2 x1 N b) := by kernel_rfl
end
end Mine
end
-- M65
section
open PySem PySem.W PyProof.Rows PySem.Calls PySem.Spec
set_option Elab.async false
set_option linter.all false
namespace Mine
set_option maxRecDepth 100000
-- a line is set
noncomputable def linT (k u : Nat) : List AV := match u with | 0 => [] | _ + 1 => [.int ((k + 1 : Nat) : Int)]
noncomputable def linL (l : Int) (k u : Nat) : Int := match u with | 0 => Builtin.bitAnd l (Builtin.bitNot (2 ^ (k + 1))) | _ + 1 => Builtin.bitOr l (2 ^ (k + 1))
noncomputable def okQ (n : Int) (c : Nat) (gs : List Prop) (b : Bool) (T : LS) (m j : Int) (res : List AV) : Option (List Prop × AV × List (Nat × AO) × Option AO) := some (gs, .bool b, (hp n c T m j).cells, some (.list res))
section
variable (w : World) (scr : Addr × List Int) (r : Nat) (T : LS) (m j : Int) (c : Nat) (x1 : Int) (res : List AV)
noncomputable def linD (N k u : Nat) := deedq 4048 w scr ⟨an0 [x1], cp1 461 (hFil 102 107 res), fun _ => none⟩ r [6, 9, k, u] N c T m j
noncomputable def linE (N k u : Nat) := okQ N c [(nxk T 0).G 9 6, (nxk T 1).G c x1, (nxk T 2).G N k, (nxk T 3).G 3 u, CG (dLin w) (hFil 102 107 res) (T.up, [], ((k + 1 : Nat) : Int), 0), res.length + (linT k u).length ≤ 1000] true { nxk T 4 with iu := cB [6, 9, k, u] + 4048, lines := linL T.lines k u } m j (res ++ linT k u)
end
section
variable (w : World) (scr : Addr × List Int) {m j : Int} {S : LS} {x y : Cx} {x1 v n : Int} (r : Nat)
theorem lin_1 {res : List AV} : each (fun N => each (fun k => each (linD w scr r (S1 S x) m j 1 x1 res N k) (List.range 3)) (List.range N)) [3, 7, 4] = [3, 7, 4].map fun N => (List.range N).map fun k => (List.range 3).map (linE w (S1 S x) m j 1 x1 res N k) := by kernel_rfl
theorem lin_2 {res : List AV} : each (fun N => each (fun k => each (linD w scr r (S2 S x y) m j 2 x1 res N k) (List.range 3)) (List.range N)) [3, 7, 4] = [3, 7, 4].map fun N => (List.range N).map fun k => (List.range 3).map (linE w (S2 S x y) m j 2 x1 res N k) := by kernel_rfl
end
end Mine
end
-- M66
section
open PySem PySem.W PyProof.Rows PySem.Calls PySem.Spec
set_option Elab.async false
set_option linter.all false
namespace Mine
set_option maxRecDepth 100000
-- what a context is let, its threshold
noncomputable def letM (N : Nat) (v : Int) : Int := Builtin.bitAnd (Builtin.bitAnd v 4294967295) ((2 ^ (N + 1) - 2 : Nat) : Int)
section
variable (w : World) (scr : Addr × List Int) (r : Nat) (T S : LS) (zs : List Cx) (m j : Int) (c : Nat) (v d : Int) (res : List AV)
noncomputable def letD (N k u : Nat) := deedq 4047 w scr ⟨an0 [9, v, d], cp1 452 (hLet N res), fun _ => none⟩ r [5, k, 10, u, 11] N c T m j
noncomputable def letE (N k u : Nat) := okQ N c [(nxk T 0).G 9 5, (nxk T 1).G c k, (nxk T 2).G 256 v, (nxk T 3).G 3 u, CG (dLet w) (hLet N res) ([], [], v, N), BiG res d] ((Builtin.bitAnd (letM N v) 4294967295 == d) == true) { ZC (nxk S 4) (zs.set k { zAt zs k with lt := res, en := letM N v }) with il := ([33, 34].take c).set k (cB [5, k, 10, u, 11] + 4047), lets := zs.map Cx.lt } m j res
noncomputable def leaD (N k : Nat) := deed w scr (orc0 [9, v]) r [5, k, 10, 0] N c T m j
noncomputable def leaE (N k : Nat) := okE N c [(nxk T 0).G 9 5, (nxk T 1).G c k, (nxk T 2).G 256 v, (nxk T 3).G 3 0] ((Builtin.bitAnd (Builtin.bitAnd (Builtin.bitAnd v 4294967295) 7) 4294967295 == v % 8) == true) (ZC (nxk S 4) (zs.set k { zAt zs k with ls := v % 8, th := Builtin.bitAnd (Builtin.bitAnd v 4294967295) 7 })) m j
end
section
variable (w : World) (scr : Addr × List Int) {m j : Int} {S : LS} {x y : Cx} {x1 v n : Int} (r : Nat)
theorem let_1 {d : Int} {res : List AV} : each (fun N => each (fun k => each (letD w scr r (S1 S x) m j 1 v d res N k) [1, 2]) [0]) [3, 7, 4] = [3, 7, 4].map fun N => [0].map fun k => [1, 2].map (letE w (S1 S x) S [x] m j 1 v d res N k) := by kernel_rfl
theorem let_2 {d : Int} {res : List AV} : each (fun N => each (fun k => each (letD w scr r (S2 S x y) m j 2 v d res N k) [1, 2]) [0, 1]) [3, 7, 4] = [3, 7, 4].map fun N => [0, 1].map fun k => [1, 2].map (letE w (S2 S x y) S [x, y] m j 2 v d res N k) := by kernel_rfl
theorem lea_1 : each (fun N => each (leaD w scr r (S1 S x) m j 1 v N) [0]) [3, 7, 4] = [3, 7, 4].map fun N => [0].map (leaE (S1 S x) S [x] m j 1 v N) := by kernel_rfl
theorem lea_2 : each (fun N => each (leaD w scr r (S2 S x y) m j 2 v N) [0, 1]) [3, 7, 4] = [3, 7, 4].map fun N => [0, 1].map (leaE (S2 S x y) S [x, y] m j 2 v N) := by kernel_rfl
end
end Mine
end
-- M67
section
open PySem PySem.W PyProof.Rows PySem.Calls PySem.Spec
set_option Elab.async false
set_option linter.all false
namespace Mine
set_option maxRecDepth 100000
-- a source is done
noncomputable def bitQ (z : Cx) (a : Nat) (b : Bool) : Prop := (!decide (Builtin.bitAnd (z.en / 2 ^ a) 1 = 0)) = b
noncomputable def dofL (N : Nat) (z : Cx) (a : Nat) : List Prop := if (Nat.ble 1 a && Nat.ble a N) = true then [bitQ z a false] else []
section
variable (w : World) (scr : Addr × List Int) (r : Nat) (T : LS) (zs : List Cx) (m j : Int) (c : Nat) (res : List AV)
noncomputable def dotD (N k a : Nat) := deedq 3047 w scr ⟨an0 [], cp1 471 (hFil 83 107 res), bp2 470 true 200147 true⟩ r [8, k, a + 1] N c T m j
noncomputable def dotE (N k a : Nat) := okQ N c [(nxk T 0).G 9 8, (nxk T 1).G c k, (nxk T 2).G ((N + 3 : Nat) : Int) ((a + 1 : Nat) : Int), InG (zAt zs k).lt ((a + 1 : Nat) : Int) true, CG (dDone w) (hFil 83 107 res) (T.served, [], ((a + 1 : Nat) : Int), 0), bitQ (zAt zs k) (a + 1) true] true { nxk T 3 with is := cB [8, k, a + 1] + 3047, sv := Builtin.bitAnd T.sv (Builtin.bitNot (2 ^ (a + 1))) } m j res
noncomputable def dofD (N k a : Nat) := deed w scr ⟨an0 [9], fun _ => none, bp2 470 false 200147 false⟩ r [8, k, a] N c T m j
noncomputable def dofE (N k a : Nat) := okE N c ([(nxk T 0).G 9 8, (nxk T 1).G c k, (nxk T 2).G ((N + 3 : Nat) : Int) a, InG (zAt zs k).lt a false] ++ dofL N (zAt zs k) a) true (nxk T 3) m j
end
section
variable (w : World) (scr : Addr × List Int) {m j : Int} {S : LS} {x y : Cx} {x1 v n : Int} (r : Nat)
theorem dot_1 {res : List AV} : each (fun N => each (fun k => each (dotD w scr r (S1 S x) m j 1 res N k) (List.range N)) [0]) [3, 7, 4] = [3, 7, 4].map fun N => [0].map fun k => (List.range N).map (dotE w (S1 S x) [x] m j 1 res N k) := by kernel_rfl
theorem dot_2 {res : List AV} : each (fun N => each (fun k => each (dotD w scr r (S2 S x y) m j 2 res N k) (List.range N)) [0, 1]) [3, 7, 4] = [3, 7, 4].map fun N => [0, 1].map fun k => (List.range N).map (dotE w (S2 S x y) [x, y] m j 2 res N k) := by kernel_rfl
theorem dof_1 : each (fun N => each (fun k => each (dofD w scr r (S1 S x) m j 1 N k) (List.range (N + 3))) [0]) [3, 7, 4] = [3, 7, 4].map fun N => [0].map fun k => (List.range (N + 3)).map (dofE (S1 S x) [x] m j 1 N k) := by kernel_rfl
theorem dof_2 : each (fun N => each (fun k => each (dofD w scr r (S2 S x y) m j 2 N k) (List.range (N + 3))) [0, 1]) [3, 7, 4] = [3, 7, 4].map fun N => [0, 1].map fun k => (List.range (N + 3)).map (dofE (S2 S x y) [x, y] m j 2 N k) := by kernel_rfl
end
end Mine
end
-- M68
section
open PySem PySem.W PyProof.Rows PySem.Calls PySem.Spec
set_option Elab.async false
set_option linter.all false
namespace Mine
set_option maxRecDepth 100000
-- a source is claimed
noncomputable def claS (T U : LS) (a : Nat) : LS := match a with | 0 => U | b + 1 => { U with served := T.served ++ [.int ((b + 1 : Nat) : Int)], sv := Builtin.bitOr T.sv (2 ^ (b + 1)) }
noncomputable def claL (T : LS) (a : Nat) (l : List Prop) : List Prop := match a with | 0 => l | _ + 1 => (T.served.length ≤ 1000) :: l
section
variable (w : World) (scr : Addr × List Int) (r : Nat) (T : LS) (zs : List Cx) (m j : Int) (c : Nat)
noncomputable def claD (N k a t : Nat) := deed w scr (orc0 []) r [7, k, a, t, a] N c T m j
noncomputable def claE (N k a t : Nat) := okE N c ((nxk T 0).G 9 7 :: (nxk T 1).G c k :: BeG N T.up T.served (zAt zs k).lt (T.ranks.map .int) 0 a :: claL T a [(nxk T 2).G 2 t, PbG N T.lines T.sv (T.en.map .int) (T.prio.map .int) k 0 a]) true (claS T (nxk T 3) a) m j
end
section
variable (w : World) (scr : Addr × List Int) {m j : Int} {S : LS} {x y : Cx} {x1 v n : Int} (r : Nat)
theorem cla_1 : each (fun N => each (fun k => each (fun a => each (claD w scr r (S1 S x) m j 1 N k a) [0, 1]) (List.range (N + 1))) [0]) [3, 7, 4] = [3, 7, 4].map fun N => [0].map fun k => (List.range (N + 1)).map fun a => [0, 1].map (claE (S1 S x) [x] m j 1 N k a) := by kernel_rfl
theorem cla_2 : each (fun N => each (fun k => each (fun a => each (claD w scr r (S2 S x y) m j 2 N k a) [0, 1]) (List.range (N + 1))) [0, 1]) [3, 7, 4] = [3, 7, 4].map fun N => [0, 1].map fun k => (List.range (N + 1)).map fun a => [0, 1].map (claE (S2 S x y) [x, y] m j 2 N k a) := by kernel_rfl
end
end Mine
end
-- M69
section
open PySem PySem.W PyProof.Rows PySem.Calls PySem.Spec
set_option Elab.async false
set_option linter.all false
namespace Mine
set_option maxRecDepth 100000
-- the comparison behind a deed
noncomputable def aliG (w : World) (T : LS) (n d : Int) (res : List AV) : List Prop := [(((T.mtime == T.time && (T.mwait == T.wait && true)) && true) == false) = false, ((decide (T.mwait ≤ T.mtime) == decide (T.wait ≤ T.time)) == false) = false, ((((T.msoft == 1) == true) == ((T.soft == 1) == true)) == false) = false, decide (4096 ≤ 4 * n) = false, CG (dAl w) (hSub res) (T.up, T.served, 0, 0), BiG res d, ((Builtin.bitAnd (Builtin.bitAnd T.lines (Builtin.bitNot T.sv)) 4294967295 == d) == false) = false]
noncomputable def aliC (T : LS) (en : List Int) (n : Int) (k : Nat) (z : Cx) (a : Int) : List Prop := [PbG n T.lines T.sv (en.map .int) (T.prio.map .int) k z.th a, BeG n T.up T.served z.lt (T.ranks.map .int) z.ls a, ((((a == 0) == false) == decide (0 < a)) == false) = false]
section
variable (w : World) (scr : Addr × List Int) {m j : Int} {S : LS} {x y : Cx} {d : Int} (r : Nat) {n : Int}
theorem ali_1 {res : List AV} {a : Int} : alike w scr (orc2 [d, a, a] res) r [9, 10, 11] n 1 (S1 S x) m j = some (aliG w S n d res ++ aliC S [x.en] n 0 x a, .bool true, (hp n 1 (S1 S x) m j).cells) := by kernel_rfl
theorem ali_2 {res : List AV} {a b : Int} : alike w scr (orc2 [d, a, a, b, b] res) r [9, 10, 11, 12, 13] n 2 (S2 S x y) m j = some (aliG w S n d res ++ (aliC S [x.en, y.en] n 0 x a ++ aliC S [x.en, y.en] n 1 y b), .bool true, (hp n 2 (S2 S x y) m j).cells) := by kernel_rfl
end
end Mine
end
-- M70
section
open PySem PySem.W PyProof.Rows PySem.Calls PySem.Spec
set_option Elab.async false
set_option linter.all false
namespace Mine
set_option maxRecDepth 100000
section
variable {w : World} {p : Program} {loose : List Str} {mean : ExcName → Option Value} {mg mb : Str → Option Value} {G0 : Heap} {lv : Nat}
theorem LR.bmp {φ : Nat → Addr} {P : World} {ks : List (Addr × Obj)} {H : Hp} {news : List (Addr × Obj)} (L : LR φ P ks H news) (k : Nat) : LR φ P ks ⟨H.cells, H.next + k⟩ news := by
  refine xe1 (L.ex) fun sat L => ?_
  refine xe12 (L.b.all) fun led e h => ?_
  exact ⟨sat, ⟨⟨led, e, all2_ext ⟨Nat.le_add_right _ _, fun _ _ => rfl⟩ L.b.lt h⟩, L.b.off, fun p hp => Nat.lt_of_lt_of_le (L.b.lt p hp) (Nat.le_add_right _ _), L.b.inj, L.b.nd⟩, L.like, L.ref⟩
theorem SF_orc {f : Value} {nh : Bool} {D D' : List AV → Hp → Res AV} (h : SF w G0 lv nh f D) (k : ∀ xs H, D' xs H = D xs H ∨ ∃ p v Hx, D' xs H = .guard p (.ok v (bmp Hx)) ∧ noRef v = true ∧ (p → (∀ i a, H.get i = some a → i < H.next) → ∃ H1, D xs H = .ok v H1 ∧ (H1 = Hx ∨ (Hx = H ∧ Same H H1)))) : SF w G0 lv nh f D' := fun ks A outer fs s φ H news R xs vs B hx hp => by
  rcases k xs H with e | ⟨q, v, Hx, e, hv, hq⟩
  · rw [e] at hp; exact h ks A outer fs s φ H news R xs vs B hx hp
  · rw [e] at hp
    have hp : _ ∧ _ := hp
    refine xe12 (hq hp.1 fun i a e => B.lr.idLt e) fun H1 e1 hc => ?_
    refine h ks A outer fs s φ H news R xs vs B hx ?_
    rw [e1]
    intro φ' s' news' u l hu
    rcases hc with rfl | ⟨rfl, hk⟩
    · exact hp.2 φ' s' news' u ⟨l.lr.bmp 1000, l.there, ⟨Nat.le_trans l.ext.1 (Nat.le_add_right _ _), l.ext.2⟩, l.kept, l.frames, l.same⟩ (noRef_low hv hu)
    · refine xe1 (B.lr.ex) fun sat L => ?_
      have D : Down (fun i => i) Hx H1 := ⟨fun q hq => by rw [renO_id]; exact hk _ _ (lookup_nd L.b.nd hq), fun q hq => by
        refine xe12 (L.b.get (lookup_nd L.b.nd hq)) fun o _ h2 => ?_
        exact h2.olt, L.b.lt, fun _ _ _ _ e => e, L.b.nd⟩
      refine xe12 (l.lr.down D) fun n' l' sub => ?_
      exact hp.2 φ' s' n' u ⟨l'.bmp 1000, fun q hq => l.there q (sub q hq), ⟨Nat.le_add_right _ _, l.ext.2⟩, l.kept, l.frames, l.same⟩ (noRef_low hv hu)
end
-- lookups
theorem seq_list {H : Hp} {i : Nat} {vs : List AV} (h : H.list i = some vs) : H.seq i = some vs := by unfold Hp.seq; rw [h]
theorem list_of {H : Hp} {i : Nat} {vs : List AV} (h : H.get i = some (.list vs)) : H.list i = some vs := by unfold Hp.list; rw [h]; rfl
theorem setL_look {i : Nat} {b : AO} : ∀ {l : List (Nat × AO)} {a : AO}, getO i l = some a → getO i (setL i b l) = some b
  | [], _, h => by cases h
  | p :: l, a, h => by
    rw [setL_cons]
    by_cases e : p.1 = i
    · rw [if_pos e, getO_cons, beq_self_eq_true]
    · rw [if_neg e, getO_cons, show (i == p.1) = false from by simpa using fun z : i = p.1 => e z.symm]
      rw [getO_cons, show (i == p.1) = false from by simpa using fun z : i = p.1 => e z.symm] at h
      exact setL_look h
theorem setL_other {i j : Nat} {b : AO} (hj : j ≠ i) : ∀ {l : List (Nat × AO)}, getO j (setL i b l) = getO j l
  | [] => rfl
  | p :: l => by
    rw [setL_cons]
    by_cases e : p.1 = i
    · rw [if_pos e, getO_cons, getO_cons, e]
      rw [show (j == i) = false from by simpa using hj]
    · rw [if_neg e, getO_cons, getO_cons, setL_other hj]
theorem get_set_same {H : Hp} {i : Nat} {a b : AO} (h : H.get i = some a) : (H.set i b).get i = some b := setL_look h
theorem get_set_ne {H : Hp} {i j : Nat} {b : AO} (h : j ≠ i) : (H.set i b).get j = H.get j := setL_other h
theorem set_eq {H : Hp} {i : Nat} {a : AO} (h : H.get i = some a) : H.set i a = H := by unfold Hp.set; rw [set_same h]
theorem setI_list {H : Hp} {i : Nat} {k : Int} {vs : List AV} {v : AV} (h : H.list i = some vs) (hk : 0 ≤ k ∧ k < 1000 ∧ k.toNat < vs.length) : setI (.ref i) (.int k) v H = .ok () (H.set i (.list (vs.set k.toNat v))) := by
  show (match H.list i with | some vs => if 0 ≤ k ∧ k < 1000 ∧ k.toNat < vs.length then Res.ok () (H.set i (.list (vs.set k.toNat v))) else .stuck | none => .stuck) = _
  rw [h]; exact if_pos hk
theorem tSub_ok {f : AV → AV → AV → Hp → Res Unit} {D1 D2 D3 : EX} {F : Frm} {H H1 H2 H3 H4 : Hp} {v y z : AV} (h1 : D1 F H = .ok v H1) (h2 : D2 F H1 = .ok y H2) (h3 : D3 F H2 = .ok z H3) (h4 : f y z v H3 = .ok () H4) : tSub f D1 D2 D3 F H = .nx F H4 := by
  unfold tSub; rw [h1]; show (D2 F H1).toS F _ = _; rw [h2]; show (D3 F H2).toS F _ = _; rw [h3]; show (f y z v H3).toS F _ = _; rw [h4]; rfl
theorem eLm_ok {f : AV → AV → Hp → Res AV} {D0 D1 : EX} {F : Frm} {H H1 H2 : Hp} {v y : AV} {r : Res AV} (h0 : D0 F H = .ok v H1) (hv : isLst v H1 = true) (h1 : D1 F H1 = .ok y H2) (h2 : f v y H2 = r) : eLm f D0 D1 F H = r := by
  unfold eLm; rw [h0]; show (if isLst v H1 = true then (D1 F H1).bind fun y H2 => f v y H2 else .stuck) = _; rw [if_pos hv, h1]; exact h2
theorem getI_list {H : Hp} {i : Nat} {k : Int} {vs : List AV} {v : AV} (h : H.list i = some vs) (hk : 0 ≤ k ∧ k < 1000) (hv : vs[k.toNat]? = some v) : getI (.ref i) (.int k) H = .ok v H := by
  show (match H.seq i with | some vs => if 0 ≤ k ∧ k < 1000 then (match vs[k.toNat]? with | some v => Res.ok v H | none => .stuck) else .stuck | none => .stuck) = _
  rw [seq_list h]; dsimp only; rw [if_pos hk, hv]
theorem fnD_ex {ps : List Nat} {xtra : List (Nat × AV)} {ccs : List Nat} {D : ST} {xs : List AV} {H H' : Hp} {v : AV} (hl : xs.length = ps.length)
    (h : ∃ F', D ⟨(ps.zip xs ++ xtra).filter fun p => !(ccs.contains p.1), (cellsD (ps.zip xs ++ xtra) ccs H).1⟩ (cellsD (ps.zip xs ++ xtra) ccs H).2 = .ret v F' H') : fnD ps xtra ccs D xs H = .ok v H' := by
  obtain ⟨F', h⟩ := h; exact fnD_ok hl h
theorem lst_of {H : Hp} {i : Nat} {vs : List AV} (h : H.list i = some vs) : isLst (.ref i) H = true := by
  unfold isLst; dsimp only; rw [h]
-- the draw itself
section
variable (w : World) {K : Kx}
theorem c_566 : callK w TT K true 566 FT = fnK w TT K true (566, 2, none) := by kernel_rfl
theorem take_ok {H : Hp} {items : List Int} {n q : Int} (h9 : H.get 9 = some (.list [.ref 8, .int n])) (h8 : H.get 8 = some (.list (items.map .int))) (hl : items.length ≤ 100) (hq : 0 < q) :
    fnK w TT (plainK K) true (566, 2, none) [.ref 9, .int q] H = .ok (.int (drw items n q)) ((H.set 8 (.list (items.map AV.int).tail)).set 9 (.list [.ref 8, .int (cntV (items.map .int) n)])) := by
  rw [q_566]
  have l9 := list_of h9
  have l8 : H.list 8 = some (items.map AV.int) := list_of h8
  have g0 : eItem (getV 11) (eK (.int 0)) ⟨[(11, .ref 9), (47, .int q)], []⟩ H = .ok (.ref 8) H := eItem_ok rfl rfl (getI_list l9 (by decide) rfl)
  have c0 : bCmp (cmpD TT .Gt) (eCall (aC (eItem (getV 11) (eK (.int 0))) aN) (altN fLen (lenG K.scr))) (eK (.int 0)) ⟨[(11, .ref 9), (47, .int q)], []⟩ H = .ok (decide (0 < ((items.map AV.int).length : Int))) H := by
    refine bCmp_ok (eCall_ok (aC_ok g0 aN_ok) (r := .ok (AV.int ((items.map AV.int).length : Int)) H) ?_) rfl rfl
    have : fLen [.ref 8] H = .ok (AV.int ((items.map AV.int).length : Int)) H := by
      show (match H.list 8 with | some vs => if vs.length ≤ 1000000 then Res.ok (AV.int (vs.length : Int)) H else .stuck | _ => .stuck) = _
      rw [l8]; exact if_pos (by rw [List.length_map]; lia)
    unfold altN; rw [this]; rfl
  refine fnD_ex rfl ?_
  show ∃ F', tC _ _ ⟨[(11, .ref 9), (47, .int q)], []⟩ H = .ret _ F' _
  induction items with
  | nil =>
    rw [show H.set 8 (.list (([] : List Int).map AV.int).tail) = H from set_eq h8]
    refine ⟨⟨[(11, .ref 9), (47, .int q), (27, .int (5 * (n + 1) + (n + 1) / 3))], []⟩, tC_nx (F1 := ⟨[(11, .ref 9), (47, .int q), (27, .int (5 * (n + 1) + (n + 1) / 3))], []⟩) (H1 := H.set 9 (.list [.ref 8, .int (n + 1)])) ?_ ?_⟩
    · rw [e_566_0]
      refine tIf_ok c0 ?_
      show tC _ _ _ _ = _
      have l9' : (H.set 9 (.list [.ref 8, .int (n + 1)])).list 9 = some [.ref 8, .int (n + 1)] := list_of (get_set_same h9)
      have g1 : ∀ H', H'.list 9 = some [.ref 8, .int (n + 1)] → eItem (getV 11) (eK (.int 1)) ⟨[(11, .ref 9), (47, .int q)], []⟩ H' = .ok (.int (n + 1)) H' := fun H' h => eItem_ok rfl rfl (getI_list h (by decide) rfl)
      refine tC_nx (tSub_ok (eBin_ok (eItem_ok rfl rfl (getI_list l9 (by decide) rfl)) rfl rfl) rfl rfl (setI_list l9 ⟨by decide, by decide, by simp⟩)) ?_
      refine tC_nx (tName_ok (eBin_ok (eBin_ok rfl (g1 _ l9') rfl) (eBin_ok (g1 _ l9') rfl rfl) rfl) rfl) rfl
    · rw [e_566_1]
      refine tC_ret (tRet_ok (eBin_ok rfl rfl ?_))
      show (match fMod _ q with | some v => Res.ok v _ | none => .stuck) = _
      unfold fMod; rw [if_pos hq]; rfl
  | cons x r =>
    rw [show (H.set 8 (.list ((x :: r).map AV.int).tail)).set 9 (.list [.ref 8, .int (cntV ((x :: r).map .int) n)]) = H.set 8 (iL r) from set_eq ((get_set_ne (by decide)).trans h9)]
    refine ⟨⟨[(11, .ref 9), (47, .int q), (27, .int x)], []⟩, tC_nx (F1 := ⟨[(11, .ref 9), (47, .int q), (27, .int x)], []⟩) (H1 := H.set 8 (iL r)) ?_ ?_⟩
    · rw [e_566_0]
      refine tIf_ok c0 ?_
      rw [if_pos (by simp)]
      refine tC_nx (tName_ok (eLm_ok g0 ?_ rfl (r := .ok (.int x) (H.set 8 (iL r))) ?_) rfl) rfl
      · exact lst_of l8
      · show (if (0 : Int) = 0 then (match H.list 8 with | some (v :: vs) => if vs.length ≤ 1000 then Res.ok v (H.set 8 (.list vs)) else .stuck | _ => .stuck) else .stuck) = _
        rw [if_pos rfl, l8]
        exact if_pos (by rw [List.length_map]; simp at hl; lia)
    · rw [e_566_1]
      refine tC_ret (tRet_ok (eBin_ok rfl rfl ?_))
      show (match fMod _ q with | some v => Res.ok v _ | none => .stuck) = _
      unfold fMod; rw [if_pos hq]; rfl
end
end Mine
end
-- M71
section
open PySem PySem.W PyProof.Rows PySem.Calls PySem.Spec
set_option Elab.async false
set_option linter.all false
namespace Mine
set_option maxRecDepth 100000
-- small facts of the machine
noncomputable def Frsh (H : Hp) : Prop := ∀ i a, H.get i = some a → i < H.next
theorem get_push {H : Hp} {a : AO} {i : Nat} : (H.push a).get i = if i = H.next then some a else H.get i := by
  show getO i ((H.next, a) :: H.cells) = _
  rw [getO_cons]
  by_cases h : i = H.next
  · rw [if_pos h, h, beq_self_eq_true]
  · rw [if_neg h, show (i == H.next) = false from by simpa using h]; rfl
theorem push_old {H : Hp} {a b : AO} {i : Nat} (f : Frsh H) (h : H.get i = some b) : (H.push a).get i = some b := by
  rw [get_push, if_neg (Nat.ne_of_lt (f i b h))]; exact h
theorem push_new {H : Hp} {a : AO} : (H.push a).get H.next = some a := by rw [get_push, if_pos rfl]
theorem Frsh.push {H : Hp} {a : AO} (f : Frsh H) : Frsh (H.push a) := fun i b h => by
  rw [get_push] at h
  show i < H.next + 1
  by_cases e : i = H.next
  · lia
  · rw [if_neg e] at h; have := f i b h; lia
theorem set_get {H : Hp} {i j : Nat} {a b : AO} (h : H.get i = some a) : (H.set i b).get j = if j = i then some b else H.get j := by
  by_cases e : j = i
  · rw [if_pos e, e]; exact get_set_same h
  · rw [if_neg e]; exact get_set_ne e
theorem Frsh.set {H : Hp} {i : Nat} {a b : AO} (f : Frsh H) (h : H.get i = some a) : Frsh (H.set i b) := fun j c e => by
  rw [set_get h] at e
  show j < H.next
  by_cases q : j = i
  · rw [q]; exact f i a h
  · rw [if_neg q] at e; exact f j c e
theorem del_get {H : Hp} {i j : Nat} (h : j ≠ i) : (H.del i).get j = H.get j := by
  show getO j (delL i H.cells) = getO j H.cells
  induction H.cells with
  | nil => rfl
  | cons p l ih =>
    rw [delL_cons, getO_cons]
    by_cases e : p.1 = i
    · rw [if_pos e, ih, show (j == p.1) = false from by simpa [e] using h]
    · rw [if_neg e, getO_cons, ih]
theorem del_none {H : Hp} {i j : Nat} {a : AO} (h : (H.del i).get j = some a) : H.get j = some a := by
  by_cases e : j = i
  · exfalso
    subst e
    have : ∀ l : List (Nat × AO), getO j (delL j l) = none := by
      intro l
      induction l with
      | nil => rfl
      | cons p l ih =>
        rw [delL_cons]
        by_cases e : p.1 = j
        · rw [if_pos e]; exact ih
        · rw [if_neg e, getO_cons, show (j == p.1) = false from by simpa using fun z => e z.symm]; exact ih
    rw [show (H.del j).get j = getO j (delL j H.cells) from rfl, this] at h
    exact no_some9 h
  · rw [del_get e] at h; exact h
theorem Frsh.del {H : Hp} {i : Nat} (f : Frsh H) : Frsh (H.del i) := fun j b h => f j b (del_none h)
theorem tup_of {H : Hp} {i : Nat} {vs : List AV} (h : H.get i = some (.tup vs)) : H.tup i = some vs := by unfold Hp.tup; rw [h]; rfl
theorem list_get {H : Hp} {i : Nat} {vs : List AV} (h : H.list i = some vs) : H.get i = some (.list vs) := Hp.list_eq h
theorem pd_of {H : Hp} {i : Nat} {vs : List (Nat × AV)} (h : H.get i = some (.pdict vs)) : H.pd i = some vs := by unfold Hp.pd; rw [h]; rfl
theorem getV_ok {F : Frm} {H : Hp} {x : Nat} {v : AV} (h : F.loc.lookup x = some v) : getV x F H = .ok v H := by unfold getV; rw [h]
theorem getI_pd {H : Hp} {i k : Nat} {d : List (Nat × AV)} {v : AV} (h : H.pd i = some d) (hv : d.lookup k = some v) : getI (.ref i) (.str k) H = .ok v H := by
  show (match H.pd i with | some es => (match es.lookup k with | some v => Res.ok v H | none => .stuck) | none => .stuck) = _
  rw [h]; dsimp only; rw [hv]
theorem opIn_ok {H : Hp} {i : Nat} {l : List Int} {x : Int} {b : Bool} (h : H.list i = some (l.map AV.int)) : opIn b (.int x) (.ref i) H = .ok (.bool (mem l x == b)) H := by
  show (match seqI i H with | some ns => Res.ok (AV.bool (ns.any (· == x) == b)) H | none => .stuck) = _
  rw [show seqI i H = some l from by unfold seqI; rw [seq_list h]; exact intsA_map l]; rfl
theorem lstAt_some {H : Hp} {v : Option AV} {vs : List AV} (h : lstAt H v = some vs) : ∃ i, v = some (.ref i) ∧ H.list i = some vs := by
  unfold lstAt at h
  induction v with
  | none => exact no_some9 h
  | some x => induction x <;> first | exact ⟨_, rfl, h⟩ | cases h
theorem eItem_pd {D : EX} {F : Frm} {H : Hp} {i k : Nat} {d : List (Nat × AV)} {v : AV} (h1 : D F H = .ok (.ref i) H) (h : H.pd i = some d) (hv : d.lookup k = some v) : eItem D (eK (.str k)) F H = .ok v H := eItem_ok h1 rfl (getI_pd h hv)
theorem bAndC_ok {D1 D2 : TX} {F : Frm} {H : Hp} {a b : Bool} (h1 : D1 F H = .ok a H) (h2 : D2 F H = .ok b H) : bAndC D1 D2 F H = .ok (a && b) H := by
  unfold bAndC; rw [h1]
  show (if a then D2 F H else .ok false H) = _
  induction a with
  | true => exact h2
  | false => rfl
-- the law's own best
structure BD (H : Hp) (n k : Int) (up served lt ranks : List Int) (d : List (Nat × AV)) (iu is iL il ir : Nat) (ls : List AV) : Prop where
  pd : H.get 10 = some (.pdict d)
  en : d.lookup 89 = some (.int n)
  eu : d.lookup 102 = some (.ref iu)
  hu : H.get iu = some (.list (up.map .int))
  es : d.lookup 83 = some (.ref is)
  hs : H.get is = some (.list (served.map .int))
  el : d.lookup 44 = some (.ref iL)
  hL : H.get iL = some (.list ls)
  kb : 0 ≤ k ∧ k < 100
  hk : ls[k.toNat]? = some (.ref il)
  hl : H.get il = some (.list (lt.map .int))
  er : d.lookup 75 = some (.ref ir)
  hr : H.get ir = some (.list (ranks.map .int))
theorem BD.same {H H' : Hp} {n k : Int} {up served lt ranks : List Int} {d : List (Nat × AV)} {iu is iL il ir : Nat} {ls : List AV} (b : BD H n k up served lt ranks d iu is iL il ir ls) (h : Same H H') : BD H' n k up served lt ranks d iu is iL il ir ls :=
  ⟨h _ _ b.pd, b.en, b.eu, h _ _ b.hu, b.es, h _ _ b.hs, b.el, h _ _ b.hL, b.kb, b.hk, h _ _ b.hl, b.er, h _ _ b.hr⟩
structure FB (F : Frm) (k b : Int) (R : Nat) : Prop where
  fp : F.loc.lookup 65 = some (.ref 10)
  fc : F.loc.lookup 18 = some (.int k)
  fb : F.loc.lookup 9 = some (.int b)
  fr : F.loc.lookup 80 = some (.ref R)
structure Rws (H0 H : Hp) (R I : Nat) (l : List (Int × Int)) : Prop where
  same : Same H0 H
  rows : ∃ refs : List Nat, H.get R = some (.list (refs.map .ref)) ∧ All2 (fun i p => i ≠ R ∧ i ≠ I ∧ H.get i = some (.tup [.int p.1, .int p.2])) refs l
  fr : Frsh H
  hR : H0.get R = none
  hI : H0.get I = none
noncomputable def bTest : TX := bAndC (bCmp (cmpD TT .In) (getV 107) (eItem (getV 65) (eK (.str 102)))) (bAndC (bCmp (cmpD TT .NotIn) (getV 107) (eItem (getV 65) (eK (.str 83)))) (bAndC (bCmp (cmpD TT .In) (getV 107) (eItem (eItem (getV 65) (eK (.str 44))) (getV 18))) (bAndN)))
noncomputable def bAdd : ST := tE (eLm appD (getV 80) (eTup (aC (eUn (unD .USub) (eItem (eItem (getV 65) (eK (.str 75))) (getV 107))) (aC (getV 107) (aN)))))
noncomputable def bBody : ST := tC (tIf bTest (tC (tIf (bCmp (cmpD TT .Gt) (eItem (eItem (getV 65) (eK (.str 75))) (getV 107)) (getV 9)) (tC bAdd (tN)) (tN)) (tN)) (tN)) (tN)
noncomputable def rowOf (up served lt ranks : List Int) (b x : Int) : List (Int × Int) := if (mem up x && (!mem served x && mem lt x)) && decide (b < rk ranks x) then [(-rk ranks x, x)] else []
theorem rk_get {ranks : List Int} {x : Int} (h : x.toNat < ranks.length) : (ranks.map AV.int)[x.toNat]? = some (.int (rk ranks x)) := by
  unfold rk
  rw [List.getElem?_map, List.getElem?_eq_getElem h, List.getD_eq_getElem?_getD, List.getElem?_eq_getElem h]; rfl
theorem all2_imp {α β : Type} {R S : α → β → Prop} (h : ∀ a b, R a b → S a b) {l : List α} {r : List β} (a : All2 R l r) : All2 S l r := a.mono h
theorem best_body {H0 H : Hp} {n k b : Int} {up served lt ranks : List Int} {d : List (Nat × AV)} {iu is iL il ir : Nat} {ls : List AV} (B : BD H0 n k up served lt ranks d iu is iL il ir ls) {F : Frm} {R I : Nat} (f : FB F k b R) {x : Int} (fx : F.loc.lookup 107 = some (.int x)) {l : List (Int × Int)} (W : Rws H0 H R I l) (hx : 0 ≤ x ∧ x < 1000 ∧ x.toNat < ranks.length) (hl : l.length ≤ 900) (hI : H.get I ≠ none) (hRI : R ≠ I) :
    ∃ H', bBody F H = .nx F H' ∧ Rws H0 H' R I (l ++ rowOf up served lt ranks b x) ∧ H'.get I = H.get I := by
  have Bh := B.same W.same
  have gx : getV 107 F H = .ok (.int x) H := getV_ok fx
  have gp : getV 65 F H = .ok (.ref 10) H := getV_ok f.fp
  have pd := pd_of Bh.pd
  have t1 : bTest F H = .ok (mem up x && (!mem served x && (mem lt x && true))) H := by
    unfold bTest
    refine bAndC_ok (bCmp_ok gx (eItem_pd gp pd Bh.eu) ?_) (bAndC_ok (bCmp_ok gx (eItem_pd gp pd Bh.es) ?_) (bAndC_ok (bCmp_ok gx (eItem_ok (eItem_pd gp pd Bh.el) (getV_ok f.fc) (getI_list (list_of Bh.hL) ⟨Bh.kb.1, by have := Bh.kb.2; lia⟩ Bh.hk)) ?_) rfl))
    · show opIn true (.int x) (.ref iu) H = _; rw [opIn_ok (list_of Bh.hu)]; induction mem up x <;> rfl
    · show alt2 (opIn false) _ _ _ _ = _; unfold alt2; rw [opIn_ok (list_of Bh.hs)]; induction mem served x <;> rfl
    · show opIn true (.int x) (.ref il) H = _; rw [opIn_ok (list_of Bh.hl)]; induction mem lt x <;> rfl
  have gr : eItem (eItem (getV 65) (eK (.str 75))) (getV 107) F H = .ok (.int (rk ranks x)) H := eItem_ok (eItem_pd gp pd Bh.er) gx (getI_list (list_of Bh.hr) ⟨hx.1, hx.2.1⟩ (rk_get hx.2.2))
  have t2 : bCmp (cmpD TT .Gt) (eItem (eItem (getV 65) (eK (.str 75))) (getV 107)) (getV 9) F H = .ok (decide (b < rk ranks x)) H := bCmp_ok gr (getV_ok f.fb) rfl
  unfold rowOf
  rw [Bool.and_true] at t1
  by_cases c1 : (mem up x && (!mem served x && mem lt x)) = true
  · by_cases c2 : b < rk ranks x
    · rw [if_pos (by rw [c1]; simpa using c2)]
      refine xe12 (W.rows) fun refs h1 h2 => ?_
      have gR := push_old (a := .tup [.int (-rk ranks x), .int x]) W.fr h1
      have add : bAdd F H = .nx F ((H.push (.tup [.int (-rk ranks x), .int x])).set R (.list (refs.map .ref ++ [.ref H.next]))) := by
        unfold bAdd
        refine tE_ok (v := .none) (eLm_ok (H2 := H.push (.tup [.int (-rk ranks x), .int x])) (y := .ref H.next) (getV_ok f.fr) (lst_of (list_of h1)) (eTup_ok (aC_ok (x := .int (-rk ranks x)) (H1 := H) ?_ (aC_ok gx aN_ok)) ?_) ?_)
        · unfold eUn; rw [gr]; rfl
        · rfl
        · show (match (H.push (.tup [.int (-rk ranks x), .int x])).list R with | some vs => if vs.length ≤ 1000 then Res.ok AV.none ((H.push (.tup [.int (-rk ranks x), .int x])).set R (AO.list (vs ++ [AV.ref H.next]))) else .stuck | _ => .stuck) = _
          rw [list_of gR]
          exact if_pos (by rw [List.length_map, h2.length]; lia)
      refine ⟨(H.push (.tup [.int (-rk ranks x), .int x])).set R (.list (refs.map AV.ref ++ [AV.ref H.next])), ?_, ⟨fun i a hi => ?_, ⟨refs ++ [H.next], ?_, ?_⟩, (W.fr.push).set gR, W.hR, W.hI⟩, ?_⟩
      · unfold bBody
        refine tC_nx (tIf_ok t1 ?_) rfl
        rw [if_pos c1]
        refine tC_nx (tIf_ok t2 ?_) rfl
        rw [if_pos (by simpa using c2)]
        exact tC_nx add rfl
      · rw [set_get gR, if_neg (fun e => by rw [e, W.hR] at hi; exact no_some9 hi)]
        exact push_old W.fr (W.same i a hi)
      · rw [set_get gR, if_pos rfl, List.map_append]; rfl
      · have keep : ∀ i (p : Int × Int), (i ≠ R ∧ i ≠ I ∧ H.get i = some (.tup [.int p.1, .int p.2])) → i ≠ R ∧ i ≠ I ∧ ((H.push (.tup [.int (-rk ranks x), .int x])).set R (.list (refs.map .ref ++ [.ref H.next]))).get i = some (.tup [.int p.1, .int p.2]) := fun i p h => ⟨h.1, h.2.1, by rw [set_get gR, if_neg h.1]; exact push_old W.fr h.2.2⟩
        have nR : H.next ≠ R := fun e => Nat.lt_irrefl _ (e ▸ W.fr R _ h1)
        have nI : H.next ≠ I := fun e => by
          induction q : H.get I with
          | none => exact hI q
          | some a => exact Nat.lt_irrefl _ (e ▸ W.fr I _ q)
        exact (all2_imp keep h2).app (.cons ⟨nR, nI, by rw [set_get gR, if_neg nR]; exact push_new⟩ .nil)
      · rw [set_get gR, if_neg (fun e => hRI e.symm)]
        induction q : H.get I with
        | none => exact absurd q hI
        | some a => exact push_old W.fr q
    · refine ⟨H, ?_, ?_, rfl⟩
      · unfold bBody
        refine tC_nx (tIf_ok t1 ?_) rfl
        rw [if_pos c1]
        refine tC_nx (tIf_ok t2 ?_) rfl
        rw [if_neg (by simpa using c2)]; rfl
      · rw [if_neg (by simp [c2]), List.append_nil]; exact W
  · refine ⟨H, ?_, ?_, rfl⟩
    · unfold bBody
      refine tC_nx (tIf_ok t1 ?_) rfl
      rw [if_neg c1]; rfl
    · rw [if_neg (by simp at c1 ⊢; intro a b c; exact absurd (c1 a b) (by simp [c])), List.append_nil]; exact W
end Mine
end
-- M72
section
open PySem PySem.W PyProof.Rows PySem.Calls PySem.Spec
set_option Elab.async false
set_option linter.all false
namespace Mine
set_option maxRecDepth 100000
theorem nextD_end {H : Hp} {I : Nat} {x : Int} (h : H.get I = some (.riter x 0)) : nextD I H = some (none, H.del I) := by
  unfold nextD; rw [h]; rfl
theorem nextD_item {H : Hp} {I : Nat} {x : Int} {m : Nat} (h : H.get I = some (.riter x ((m + 1 : Nat) : Int))) : nextD I H = some (some (.int x), H.set I (.riter (x + 1) ((m : Nat) : Int))) := by
  unfold nextD; rw [h]
  show (if ((m + 1 : Nat) : Int) ≤ 0 then _ else _) = _
  rw [if_neg (by lia)]
  rw [show ((m + 1 : Nat) : Int) - 1 = (m : Int) from by lia]
theorem eIf_ok {D : TX} {D1 D2 : EX} {F : Frm} {H H1 : Hp} {c : Bool} {r : Res AV} (h : D F H = .ok c H1) (k : (if c then D1 F H1 else D2 F H1) = r) : eIf D D1 D2 F H = r := by unfold eIf; rw [h]; exact k
theorem loop_step {f : VX} {D : ST} {I fuel : Nat} {F F1 F2 : Frm} {H H1 H2 : Hp} {v : AV} {r : RS} (h : nextD I H = some (some v, H1)) (hf : f v F H1 = some (F1, H1)) (hD : D F1 H1 = .nx F2 H2) (k : loopD f D I fuel F2 H2 = r) : loopD f D I (fuel + 1) F H = r := by
  unfold loopD; rw [h]; dsimp only; rw [hf]; dsimp only; rw [hD]; exact k
theorem loop_end {f : VX} {D : ST} {I fuel : Nat} {F : Frm} {H H1 : Hp} (h : nextD I H = some (none, H1)) : loopD f D I (fuel + 1) F H = .nx F H1 := by
  unfold loopD; rw [h]
noncomputable def bPut (F : Frm) (x : Int) : Frm := { F with loc := putS 107 (.int x) F.loc }
theorem FB.put {F : Frm} {k b : Int} {R : Nat} (f : FB F k b R) (x : Int) : FB (bPut F x) k b R :=
  ⟨by show (putS 107 _ F.loc).lookup 65 = _; rw [putS_lookup, if_neg (by decide)]; exact f.fp, by show (putS 107 _ F.loc).lookup 18 = _; rw [putS_lookup, if_neg (by decide)]; exact f.fc, by show (putS 107 _ F.loc).lookup 9 = _; rw [putS_lookup, if_neg (by decide)]; exact f.fb, by show (putS 107 _ F.loc).lookup 80 = _; rw [putS_lookup, if_neg (by decide)]; exact f.fr⟩
theorem best_loop {H0 : Hp} {n k b : Int} {up served lt ranks : List Int} {d : List (Nat × AV)} {iu is iL il ir : Nat} {ls : List AV} (B : BD H0 n k up served lt ranks d iu is iL il ir ls) {R I : Nat} (hRI : R ≠ I) : ∀ (m : Nat) (x : Int) (H : Hp) (l : List (Int × Int)) (F : Frm) (fuel : Nat), FB F k b R → Rws H0 H R I l → H.get I = some (.riter x (m : Int)) → 0 ≤ x → x + m < 900 → (x + m).toNat ≤ ranks.length → l.length + m ≤ 900 →
    m < fuel → ∃ F' H', loopD (stL 107) bBody I fuel F H = .nx F' H' ∧ FB F' k b R ∧ Rws H0 H' R I (l ++ (wiresF m x).flatMap (rowOf up served lt ranks b))
  | 0, x, H, l, F, fuel + 1, f, W, hI, h0, h1, h2, h3, h4 => by
    refine ⟨F, H.del I, loop_end (nextD_end hI), f, ?_⟩
    have e : l ++ (wiresF 0 x).flatMap (rowOf up served lt ranks b) = l := by show l ++ [] = l; rw [List.append_nil]
    rw [e]
    refine hide fun q9 b9 => ?_
    refine xe12 (W.rows) fun refs r1 r2 => ?_
    refine b9 ?_
    have ne : ∀ i a, H0.get i = some a → i ≠ I := fun i a hi q => by rw [q, W.hI] at hi; exact no_some9 hi
    exact ⟨fun i a hi => by rw [del_get (ne i a hi)]; exact W.same i a hi, ⟨refs, by rw [del_get hRI]; exact r1, all2_imp (fun i p h => ⟨h.1, h.2.1, by rw [del_get h.2.1]; exact h.2.2⟩) r2⟩, W.fr.del, W.hR, W.hI⟩
  | m + 1, x, H, l, F, fuel + 1, f, W, hI, h0, h1, h2, h3, h4 => by
    have ne : ∀ i a, H0.get i = some a → i ≠ I := fun i a hi q => by rw [q, W.hI] at hi; exact no_some9 hi
    refine hide fun q9 b9 => ?_
    refine xe12 (W.rows) fun refs r1 r2 => ?_
    have W1 : Rws H0 (H.set I (.riter (x + 1) (m : Int))) R I l := ⟨fun i a hi => by rw [set_get hI, if_neg (ne i a hi)]; exact W.same i a hi, ⟨refs, by rw [set_get hI, if_neg hRI]; exact r1, all2_imp (fun i p h => ⟨h.1, h.2.1, by rw [set_get hI, if_neg h.2.1]; exact h.2.2⟩) r2⟩, W.fr.set hI, W.hR, W.hI⟩
    have hI1 : (H.set I (.riter (x + 1) (m : Int))).get I = some (.riter (x + 1) (m : Int)) := by rw [set_get hI, if_pos rfl]
    refine xe13 (best_body B (f.put x) (x := x) (by show (putS 107 _ F.loc).lookup 107 = _; rw [putS_lookup, if_pos rfl]) W1 ⟨h0, by lia, by lia⟩ (by lia) (by rw [hI1]; simp) hRI) fun H2 e1 W2 e2 => ?_
    refine b9 ?_
    rw [hI1] at e2
    have hlen : (rowOf up served lt ranks b x).length ≤ 1 := by unfold rowOf; split <;> simp
    refine hide fun q9 b9 => ?_
    refine xe23 (best_loop B hRI m (x + 1) H2 _ (bPut F x) fuel (f.put x) W2 e2 (by lia) (by lia) (by lia) (by rw [List.length_append]; lia) (by lia)) fun F' H' e3 f' W3 => ?_
    refine b9 ?_
    refine ⟨F', H', loop_step (nextD_item hI) rfl e1 e3, f', ?_⟩
    have e : l ++ (wiresF (m + 1) x).flatMap (rowOf up served lt ranks b) = (l ++ rowOf up served lt ranks b x) ++ (wiresF m (x + 1)).flatMap (rowOf up served lt ranks b) := by
      show l ++ (x :: wiresF m (x + 1)).flatMap _ = _
      rw [List.flatMap_cons, List.append_assoc]
    rw [e]; exact W3
noncomputable def pick (l : List (Int × Int)) : Int := if l = [] then 0 else ((l[argBest (btP l) (l.length - 1)]?).getD (0, 0)).2
theorem argBest_le (bt : Nat → Nat → Bool) : ∀ k, argBest bt k ≤ k
  | 0 => Nat.le_refl _
  | k + 1 => by
    show (if bt (k + 1) (argBest bt k) then k + 1 else argBest bt k) ≤ k + 1
    split
    · exact Nat.le_refl _
    · exact Nat.le_succ_of_le (argBest_le bt k)
theorem prs_ok {H : Hp} : ∀ {refs : List Nat} {l : List (Int × Int)}, All2 (fun i (p : Int × Int) => H.get i = some (.tup [.int p.1, .int p.2])) refs l → prs H (refs.map .ref) = some l
 := fun t => by
  induction t with
  | nil => rfl
  | cons h t ih =>
    rw [List.map_cons]; unfold prs
    rw [tup_of h]; dsimp only; rw [ih]; rfl
theorem all2_at {α β : Type} {R : α → β → Prop} : ∀ {l : List α} {r : List β}, All2 R l r → ∀ {i : Nat} {y : β}, r[i]? = some y → ∃ x, l[i]? = some x ∧ R x y := fun h _ _ e => all2_idx h e
section
variable (w : World) {K : Kx}
theorem best_end {H0 H : Hp} {F : Frm} {k b : Int} {R I : Nat} {l : List (Int × Int)} (f : FB F k b R) (W : Rws H0 H R I l) (hl : l.length ≤ 900) : ∃ H1, stm w (plainK K) 587 none 2 F H = .ret (.int (pick l)) F H1 ∧ Same H0 H1 := by
  rw [e_587_2]
  refine hide fun q9 b9 => ?_
  refine xe12 (W.rows) fun refs h1 h2 => ?_
  refine b9 ?_
  have hlen := h2.length
  have gR := push_old (a := .list []) W.fr h1
  have gN : (H.push (.list [])).get H.next = some (.list []) := push_new
  have same : Same H0 (H.push (.list [])) := fun i a hi => push_old W.fr (W.same i a hi)
  have tR : (H.push (.list [])).tup R = none := by unfold Hp.tup; rw [gR]; rfl
  have e0 : opEq false (.ref R) (.ref H.next) (H.push (.list [])) = .ok (.bool (!decide (l = []))) (H.push (.list [])) := by
    show (match rcS (eqA (H.push (.list [])) 4) (H.push (.list [])) R H.next with | some r => Res.ok (AV.bool (r == false)) (H.push (.list [])) | none => .stuck) = _
    unfold rcS
    rw [tR]; dsimp only; rw [list_of gR]; dsimp only; rw [list_of gN]; dsimp only
    induction l with
    | nil =>
      have : refs = [] := List.length_eq_zero_iff.mp hlen
      subst this
      rfl
    | cons p l =>
      have : refs ≠ [] := fun q => by rw [q] at hlen; contradiction
      rw [if_neg (by rw [List.length_map, List.length_nil]; exact fun q => this (List.length_eq_zero_iff.mp q))]
      rfl
  have t : bCmp (cmpD TT .NotEq) (getV 80) (eList (aN)) F H = .ok (!decide (l = [])) (H.push (.list [])) := bCmp_ok (getV_ok f.fr) (eList_ok aN_ok rfl) e0
  refine ⟨H.push (.list []), tRet_ok (eIf_ok t ?_), same⟩
  by_cases hn : l = []
  · rw [if_neg (by simp [hn])]; unfold pick; rw [if_pos hn]; rfl
  · rw [if_pos (by simp [hn])]; unfold pick; rw [if_neg hn]
    have h2' : All2 (fun i (p : Int × Int) => (H.push (.list [])).get i = some (.tup [.int p.1, .int p.2])) refs l := all2_imp (fun i p h => push_old W.fr h.2.2) h2
    have hlt : argBest (btP l) (l.length - 1) < l.length := Nat.lt_of_le_of_lt (argBest_le _ _) (by have := List.length_pos_iff.mpr hn; lia)
    refine hide fun q9 b9 => ?_
    refine xe12 (all2_at h2' (List.getElem?_eq_getElem hlt)) fun i hi hp => ?_
    refine b9 ?_
    have hm : altN fMin fMinP [.ref R] (H.push (.list [])) = .ok (.ref i) (H.push (.list [])) := by
      show (match (H.push (.list [])).list R with | some vs => (match prs (H.push (.list [])) vs with | some ps => (match vs[argBest (btP ps) (vs.length - 1)]? with | some v => Res.ok v (H.push (.list [])) | none => .stuck) | none => .stuck) | none => .stuck) = _
      rw [list_of gR]; dsimp only; rw [prs_ok h2']; dsimp only
      rw [List.length_map, hlen, List.getElem?_map, hi]; rfl
    refine eItem_ok (eCall_ok (aC_ok (getV_ok f.fr) aN_ok) hm) rfl ?_
    rw [List.getElem?_eq_getElem hlt]
    show (match (H.push (.list [])).seq i with | some vs => if (0 : Int) ≤ 1 ∧ (1 : Int) < 1000 then (match vs[(1 : Int).toNat]? with | some v => Res.ok v (H.push (.list [])) | none => .stuck) else .stuck | none => .stuck) = _
    have : (H.push (.list [])).seq i = some [.int l[argBest (btP l) (l.length - 1)].1, .int l[argBest (btP l) (l.length - 1)].2] := by
      unfold Hp.seq; rw [show (H.push (.list [])).list i = none from by unfold Hp.list; rw [hp]; rfl]; exact tup_of hp
    rw [this]; rfl
theorem best_ok {H : Hp} {n k b : Int} {up served lt ranks : List Int} {d : List (Nat × AV)} {iu is iL il ir : Nat} {ls : List AV} (B : BD H n k up served lt ranks d iu is iL il ir ls) (fr : Frsh H) (hn : 0 ≤ n ∧ n ≤ 31) (hr : (n + 1).toNat ≤ ranks.length) :
    ∃ H1, fnK w TT (plainK K) true (587, 3, none) [.ref 10, .int k, .int b] H = .ok (.int (pick ((wires n).flatMap (rowOf up served lt ranks b)))) H1 ∧ Same H H1 := by
  rw [q_587]
  -- the list, the range, the iterator
  refine hide fun q9 b9 => ?_
  obtain ⟨F0, hF0⟩ : ∃ F0 : Frm, F0 = ⟨[(65, .ref 10), (18, .int k), (9, .int b), (80, .ref H.next)], []⟩ := ⟨_, rfl⟩
  have f0 : FB F0 k b H.next := by subst hF0; exact ⟨rfl, rfl, rfl, rfl⟩
  obtain ⟨m, hm⟩ : ∃ m : Nat, n = (m : Int) := ⟨n.toNat, by lia⟩
  have fr1 : Frsh (H.push (.list [])) := fr.push
  have fr2 : Frsh ((H.push (.list [])).push (.range 1 (n + 1))) := fr1.push
  have none_ : ∀ {i : Nat}, H.next ≤ i → H.get i = none := fun {i} hi => by
    induction e : H.get i with
    | none => rfl
    | some a => have := fr i a e; lia
  have hI : (((H.push (.list [])).push (.range 1 (n + 1))).push (.riter 1 (m : Int))).get (H.next + 1 + 1) = some (.riter 1 (m : Int)) := push_new
  have hR : (((H.push (.list [])).push (.range 1 (n + 1))).push (.riter 1 (m : Int))).get H.next = some (.list []) := push_old fr2 (push_old fr1 push_new)
  have same : Same H (((H.push (.list [])).push (.range 1 (n + 1))).push (.riter 1 (m : Int))) := fun i a hi => push_old fr2 (push_old fr1 (push_old fr hi))
  have W : Rws H (((H.push (.list [])).push (.range 1 (n + 1))).push (.riter 1 (m : Int))) H.next (H.next + 1 + 1) [] := ⟨same, ⟨[], hR, .nil⟩, fr2.push, none_ (Nat.le_refl _), none_ (by lia)⟩
  refine xe23 (best_loop B (b := b) (R := H.next) (I := H.next + 1 + 1) (by lia) m 1 _ [] F0 100 f0 W hI (by decide) (by lia) (by lia) (by show 0 + m ≤ 900; lia) (by lia)) fun F' H' e1 f' W' => ?_
  have hwl : ((wiresF m 1).flatMap (rowOf up served lt ranks b)).length ≤ 900 := by
    have : ∀ (m : Nat) (x : Int), ((wiresF m x).flatMap (rowOf up served lt ranks b)).length ≤ m := by
      intro m
      induction m with
      | zero => intro x; exact Nat.le_refl _
      | succ m ih =>
        intro x
        show ((x :: wiresF m (x + 1)).flatMap _).length ≤ _
        rw [List.flatMap_cons, List.length_append]
        have := ih (x + 1)
        have : (rowOf up served lt ranks b x).length ≤ 1 := by unfold rowOf; split <;> simp
        lia
    have := this m 1; lia
  refine xe12 (best_end w (K := K) f' W' (by show ([] ++ _ : List _).length ≤ 900; exact hwl)) fun H1 e2 s2 => ?_
  refine b9 ?_
  refine ⟨H1, fnD_ex rfl ⟨F', ?_⟩, s2⟩
  show tC _ _ ⟨[(65, .ref 10), (18, .int k), (9, .int b)], []⟩ H = _
  refine tC_nx (F1 := F0) (H1 := H.push (.list [])) (by subst hF0; kernel_rfl) (tC_nx (F1 := F') (H1 := H') ?_ ?_)
  · rw [e_587_1]
    have B1 := B.same (fun i a hi => push_old (a := .list []) fr hi)
    have hDe : eCall (aC (eK (.int 1)) (aC (eBin (binD .Add) (eItem (getV 65) (eK (.str 89))) (eK (.int 1))) (aN))) fRange F0 (H.push (.list [])) = .ok (.ref (H.next + 1)) ((H.push (.list [])).push (.range 1 (n + 1))) :=
      eCall_ok (aC_ok rfl (aC_ok (eBin_ok (eItem_pd (getV_ok f0.fp) (pd_of B1.pd) B1.en) rfl rfl) aN_ok)) rfl
    have hIt : iterD (.ref (H.next + 1)) ((H.push (.list [])).push (.range 1 (n + 1))) = .ok (.ref (H.next + 1 + 1)) (((H.push (.list [])).push (.range 1 (n + 1))).push (.riter 1 (m : Int))) := by
      have hr : ((H.push (.list [])).push (.range 1 (n + 1))).range (H.next + 1) = some (1, n + 1) := by
        unfold Hp.range; rw [show ((H.push (.list [])).push (.range 1 (n + 1))).get (H.next + 1) = some (.range 1 (n + 1)) from push_new]; rfl
      unfold iterD; dsimp only; rw [hr]; dsimp only
      rw [if_pos ⟨⟨by decide, by decide⟩, by lia, by lia⟩]
      rw [show (if (1 : Int) < n + 1 then n + 1 - 1 else 0) = (m : Int) from by split <;> lia]; rfl
    unfold tFor
    rw [hDe]; show (iterD _ _).toS F0 _ = _; rw [hIt]; exact e1
  · refine tC_ret ?_
    rw [e2]
    rw [hm]; rfl
end
end Mine
end
-- M73
section
open PySem PySem.W PyProof.Rows PySem.Calls PySem.Spec
set_option Elab.async false
set_option linter.all false
namespace Mine
set_option maxRecDepth 100000
-- the machine's best
structure PD (H : Hp) (n lines sv k : Int) (en ranks : List Int) (d : List (Nat × AV)) (di ie ip : Nat) : Prop where
  inst : H.get 22 = some (.inst 266 di)
  dict : H.get di = some (.dict d)
  np : d.lookup 63 = none
  e89 : d.lookup 89 = some (.int n)
  el : d.lookup 45 = some (.int lines)
  es : d.lookup 83 = some (.int sv)
  ee : d.lookup 25 = some (.ref ie)
  he : H.get ie = some (.list (en.map .int))
  ep : d.lookup 68 = some (.ref ip)
  hp : H.get ip = some (.list (ranks.map .int))
  kb : 0 ≤ k ∧ k < 100 ∧ k.toNat < en.length
theorem PD.same {H H' : Hp} {n lines sv k : Int} {en ranks : List Int} {d : List (Nat × AV)} {di ie ip : Nat} (b : PD H n lines sv k en ranks d di ie ip) (h : Same H H') : PD H' n lines sv k en ranks d di ie ip :=
  ⟨h _ _ b.inst, h _ _ b.dict, b.np, b.e89, b.el, b.es, b.ee, h _ _ b.he, b.ep, h _ _ b.hp, b.kb⟩
theorem inst_of' {H : Hp} {i C d : Nat} (h : H.get i = some (.inst C d)) : H.inst i = some (C, d) := by unfold Hp.inst; rw [h]; rfl
theorem dict_of {H : Hp} {i : Nat} {d : List (Nat × AV)} (h : H.get i = some (.dict d)) : H.dict i = some d := by unfold Hp.dict; rw [h]; rfl
theorem getA_ok {H : Hp} {i di x : Nat} {d : List (Nat × AV)} {v : AV} (h1 : H.get i = some (.inst 266 di)) (h2 : H.get di = some (.dict d)) (h3 : d.lookup x = some v) (hb : noB v = true) {g : AV → Hp → Res AV} : alt1 (getA [266] x) g (.ref i) H = .ok v H := by
  have : getA [266] x (.ref i) H = .ok v H := by
    unfold getA; dsimp only; rw [inst_of' h1]; dsimp only; rw [if_pos (by decide), dict_of h2]; dsimp only; rw [h3]; dsimp only; rw [if_pos hb]
  unfold alt1; rw [this]; rfl
theorem eAttr_ok {f : AV → Hp → Res AV} {D : EX} {F : Frm} {H H1 : Hp} {v : AV} {r : Res AV} (h : D F H = .ok v H1) (k : f v H1 = r) : eAttr f D F H = r := by unfold eAttr; rw [h]; exact k
theorem eUn_ok {f : AV → Hp → Res AV} {D : EX} {F : Frm} {H H1 : Hp} {v : AV} {r : Res AV} (h : D F H = .ok v H1) (k : f v H1 = r) : eUn f D F H = r := by unfold eUn; rw [h]; exact k
theorem bP_ok {D : EX} {F : Frm} {H H1 : Hp} {v : AV} {b : Bool} (h : D F H = .ok v H1) (k : tv v H1 = .ok b H1) : bP D F H = .ok b H1 := by unfold bP; rw [h]; exact k
theorem bst_cons {c : Int → Bool} {r : Int → Int} {b x f : Int} {l : List Int} : bst c r b (x :: l) f = if c x && decide (b < r x) then bst c r (r x) l x else bst c r b l f := rfl
theorem mGet_one {x i C di f : Nat} {d : List (Nat × AV)} {H : Hp} {g : List AV → Hp → Res AV} (h1 : H.get i = some (.inst C di)) (h2 : H.get di = some (.dict d)) (h3 : d.lookup x = none) : mGet x [(C, f, g)] (.ref i) H = some (i, f, g) := by
  unfold mGet; dsimp only; rw [inst_of' h1]; dsimp only; rw [dict_of h2]; dsimp only; rw [h3]; dsimp only
  rw [List.lookup_cons, beq_self_eq_true]; rfl
theorem eMeth0_ok {x : Nat} {mt : MT} {D0 : EX} {F : Frm} {H H1 : Hp} {v : AV} {y : Nat × Addr × (List AV → Hp → Res AV)} {r : Res AV} (h1 : D0 F H = .ok v H1) (h2 : mGet x mt v H1 = some y) (h4 : y.2.2 [.ref y.1] H1 = r) : eMeth0 x mt D0 F H = r := by
  unfold eMeth0; rw [h1]; show (match mGet x mt v H1 with | some y => y.2.2 [.ref y.1] H1 | none => .stuck) = _; rw [h2]; exact h4
structure FP (F : Frm) (m f : Int) (lt : Int) : Prop where
  fs : F.loc.lookup 82 = some (.ref 22)
  fl : F.loc.lookup 44 = some (.int lt)
  ff : F.loc.lookup 28 = some (.int f)
  fm : F.loc.lookup 50 = some (.int m)
noncomputable def pPrio : EX := eAttr (alt1 (getA [266] 68) (getX [] 68)) (getV 82)
noncomputable def pTest : TX := bAndC (bP (eBin (binD .BitAnd) (eBin (binD .RShift) (getV 44) (getV 88)) (eK (.int 1)))) (bAndC (bCmp (cmpD TT .Gt) (eItem pPrio (getV 88)) (getV 50)) (bAndN))
noncomputable def pSet : ST := tSwp 2 (vC (stL 50) (vC (stL 28) (vN))) (eTup (aC (getV 88) (aC (eItem pPrio (getV 88)) (aN))))
noncomputable def pBody : ST := tC (tIf pTest (tC pSet (tN)) (tN)) (tN)
noncomputable def pPut (F : Frm) (x : Int) : Frm := { F with loc := putS 88 (.int x) F.loc }
theorem FP.put {F : Frm} {m f lt : Int} (q : FP F m f lt) (x : Int) : FP (pPut F x) m f lt :=
  ⟨by show (putS 88 _ F.loc).lookup 82 = _; rw [putS_lookup, if_neg (by decide)]; exact q.fs, by show (putS 88 _ F.loc).lookup 44 = _; rw [putS_lookup, if_neg (by decide)]; exact q.fl, by show (putS 88 _ F.loc).lookup 28 = _; rw [putS_lookup, if_neg (by decide)]; exact q.ff, by show (putS 88 _ F.loc).lookup 50 = _; rw [putS_lookup, if_neg (by decide)]; exact q.fm⟩
theorem FP.upd {F : Frm} {m f lt : Int} (q : FP F m f lt) (m' f' : Int) : FP { F with loc := putS 28 (.int f') (putS 50 (.int m') F.loc) } m' f' lt :=
  ⟨by show (putS 28 _ (putS 50 _ F.loc)).lookup 82 = _; rw [putS_lookup, if_neg (by decide), putS_lookup, if_neg (by decide)]; exact q.fs, by show (putS 28 _ (putS 50 _ F.loc)).lookup 44 = _; rw [putS_lookup, if_neg (by decide), putS_lookup, if_neg (by decide)]; exact q.fl, by show (putS 28 _ (putS 50 _ F.loc)).lookup 28 = _; rw [putS_lookup, if_pos rfl], by show (putS 28 _ (putS 50 _ F.loc)).lookup 50 = _; rw [putS_lookup, if_neg (by decide), putS_lookup, if_pos rfl]⟩
theorem pbody {H0 H : Hp} {n lines sv k : Int} {en ranks : List Int} {d : List (Nat × AV)} {di ie ip : Nat} (B : PD H0 n lines sv k en ranks d di ie ip) (sm : Same H0 H) (fr : Frsh H) {F : Frm} {m f lt x : Int} (q : FP F m f lt) (fx : F.loc.lookup 88 = some (.int x)) (hx : 0 ≤ x ∧ x < 1000 ∧ x.toNat < ranks.length) :
    ∃ F' H', pBody F H = .nx F' H' ∧ Same H H' ∧ Frsh H' ∧ (if bitAt lt x && decide (m < rk ranks x) then FP F' (rk ranks x) x lt else FP F' m f lt) := by
  have Bh := B.same sm
  have gx : getV 88 F H = .ok (.int x) H := getV_ok fx
  have gp : pPrio F H = .ok (.ref ip) H := eAttr_ok (getV_ok q.fs) (getA_ok Bh.inst Bh.dict Bh.ep rfl)
  have gr : eItem pPrio (getV 88) F H = .ok (.int (rk ranks x)) H := eItem_ok gp gx (getI_list (list_of Bh.hp) ⟨hx.1, hx.2.1⟩ (rk_get hx.2.2))
  have t1 : bP (eBin (binD .BitAnd) (eBin (binD .RShift) (getV 44) (getV 88)) (eK (.int 1))) F H = .ok (bitAt lt x) H := by
    refine bP_ok (v := .int (Builtin.bitAnd (lt / 2 ^ x.toNat) 1)) (eBin_ok (x := .int (lt / 2 ^ x.toNat)) (y := .int 1) (H1 := H) (H2 := H) (eBin_ok (getV_ok q.fl) gx ?_) rfl ?_) rfl
    · show (match fShr lt x with | some v => Res.ok v H | none => .stuck) = _
      unfold fShr; rw [if_pos hx.1]
    · rfl
  have t : pTest F H = .ok (bitAt lt x && (decide (m < rk ranks x) && true)) H := bAndC_ok t1 (bAndC_ok (bCmp_ok gr (getV_ok q.fm) rfl) rfl)
  rw [Bool.and_true] at t
  by_cases c : (bitAt lt x && decide (m < rk ranks x)) = true
  · refine ⟨{ F with loc := putS 28 (.int x) (putS 50 (.int (rk ranks x)) F.loc) }, H.push (.tup [.int x, .int (rk ranks x)]), ?_, fun i a hi => push_old fr hi, fr.push, by rw [if_pos c]; exact q.upd _ _⟩
    unfold pBody
    refine tC_nx (tIf_ok t ?_) rfl
    rw [if_pos c]
    refine tC_nx (tSwp_ok (i := H.next) (vs := [.int x, .int (rk ranks x)]) (eTup_ok (aC_ok gx (aC_ok gr aN_ok)) rfl) ?_ rfl) rfl
    show (match (H.push (.tup [.int x, .int (rk ranks x)])).tup H.next with | some vs => if vs.length = 2 then some vs else none | none => none) = _
    rw [tup_of push_new]; rfl
  · refine ⟨F, H, ?_, fun i a hi => hi, fr, by rw [if_neg c]; exact q⟩
    unfold pBody
    refine tC_nx (tIf_ok t ?_) rfl
    rw [if_neg c]; rfl
theorem ploop {H0 : Hp} {n lines sv k : Int} {en ranks : List Int} {d : List (Nat × AV)} {di ie ip I : Nat} (B : PD H0 n lines sv k en ranks d di ie ip) (hI0 : H0.get I = none) {lt : Int} : ∀ (c : Nat) (x m f : Int) (H : Hp) (F : Frm) (fuel : Nat), FP F m f lt → Same H0 H → Frsh H → H.get I = some (.riter x (c : Int)) → 0 ≤ x → x + c < 900 → (x + c).toNat ≤ ranks.length → c < fuel →
    ∃ F' H', loopD (stL 88) pBody I fuel F H = .nx F' H' ∧ Same H0 H' ∧ Frsh H' ∧ F'.loc.lookup 28 = some (.int (bst (bitAt lt) (rk ranks) m (wiresF c x) f))
  | 0, x, m, f, H, F, fuel + 1, q, sm, fr, hI, h0, h1, h2, h3 => by
    have ne : ∀ i a, H0.get i = some a → i ≠ I := fun i a hi q => by rw [q, hI0] at hi; exact no_some9 hi
    exact ⟨F, H.del I, loop_end (nextD_end hI), fun i a hi => by rw [del_get (ne i a hi)]; exact sm i a hi, fr.del, q.ff⟩
  | c + 1, x, m, f, H, F, fuel + 1, q, sm, fr, hI, h0, h1, h2, h3 => by
    have ne : ∀ i a, H0.get i = some a → i ≠ I := fun i a hi q => by rw [q, hI0] at hi; exact no_some9 hi
    have sm1 : Same H0 (H.set I (.riter (x + 1) (c : Int))) := fun i a hi => by rw [set_get hI, if_neg (ne i a hi)]; exact sm i a hi
    have hI1 : (H.set I (.riter (x + 1) (c : Int))).get I = some (.riter (x + 1) (c : Int)) := by rw [set_get hI, if_pos rfl]
    refine hide fun q9 b9 => ?_
    refine xe24 (pbody B sm1 (fr.set hI) (q.put x) (x := x) (by show (putS 88 _ F.loc).lookup 88 = _; rw [putS_lookup, if_pos rfl]) ⟨h0, by lia, by lia⟩) fun F2 H2 e1 sm2 fr2 q2 => ?_
    refine b9 ?_
    have sm3 : Same H0 H2 := fun i a hi => sm2 i a (sm1 i a hi)
    have hI2 := sm2 _ _ hI1
    by_cases cc : (bitAt lt x && decide (m < rk ranks x)) = true
    · rw [if_pos cc] at q2
      refine hide fun q9 b9 => ?_
      refine xe24 (ploop B hI0 c (x + 1) _ _ H2 F2 fuel q2 sm3 fr2 hI2 (by lia) (by lia) (by lia) (by lia)) fun F' H' e3 s3 f3 r3 => ?_
      refine b9 ?_
      refine ⟨F', H', loop_step (nextD_item hI) rfl e1 e3, s3, f3, ?_⟩
      rw [r3]
      show _ = some (AV.int (bst _ _ m (x :: wiresF c (x + 1)) f))
      rw [bst_cons, if_pos cc]
    · rw [if_neg cc] at q2
      refine hide fun q9 b9 => ?_
      refine xe24 (ploop B hI0 c (x + 1) _ _ H2 F2 fuel q2 sm3 fr2 hI2 (by lia) (by lia) (by lia) (by lia)) fun F' H' e3 s3 f3 r3 => ?_
      refine b9 ?_
      refine ⟨F', H', loop_step (nextD_item hI) rfl e1 e3, s3, f3, ?_⟩
      rw [r3]
      show _ = some (AV.int (bst _ _ m (x :: wiresF c (x + 1)) f))
      rw [bst_cons, if_neg cc]
section
variable (w : World) {K : Kx}
theorem c_207 : callK w TT K true 207 FT = fnK w TT K true (207, 1, none) := by kernel_rfl
theorem pend_ok {H : Hp} {n lines sv k : Int} {en ranks : List Int} {d : List (Nat × AV)} {di ie ip : Nat} (B : PD H n lines sv k en ranks d di ie ip) : callK w TT K true 207 FT [.ref 22] H = .ok (.int (Builtin.bitAnd lines (Builtin.bitNot sv))) H := by
  rw [c_207, q_207]
  refine fnD_ex rfl ⟨⟨[(82, .ref 22)], []⟩, ?_⟩
  show tC _ _ ⟨[(82, .ref 22)], []⟩ H = _
  rw [e_207_0]
  exact tC_ret (tRet_ok (eBin_ok (eAttr_ok rfl (getA_ok B.inst B.dict B.el rfl)) (eUn_ok (eAttr_ok rfl (getA_ok B.inst B.dict B.es rfl)) rfl) rfl))
theorem pbest_ok {H : Hp} {n lines sv k b : Int} {en ranks : List Int} {d : List (Nat × AV)} {di ie ip : Nat} (B : PD H n lines sv k en ranks d di ie ip) (fr : Frsh H) (hn : 0 ≤ n ∧ n ≤ 31) (hr : (n + 1).toNat ≤ ranks.length) :
    ∃ H1, fnK w TT (plain2 w K) true (214, 3, none) [.ref 22, .int k, .int b] H = .ok (.int (plBest n (Builtin.bitAnd (Builtin.bitAnd lines (Builtin.bitNot sv)) (en.getD k.toNat 0)) ranks b)) H1 ∧ Same H H1 := by
  rw [q_214]
  refine hide fun q9 b9 => ?_
  obtain ⟨c, hc⟩ : ∃ c : Nat, n = (c : Int) := ⟨n.toNat, by lia⟩
  obtain ⟨M, hM⟩ : ∃ M, M = Builtin.bitAnd (Builtin.bitAnd lines (Builtin.bitNot sv)) (en.getD k.toNat 0) := ⟨_, rfl⟩
  have fr1 : Frsh (H.push (.tup [.int 0, .int b])) := fr.push
  have sm1 : Same H (H.push (.tup [.int 0, .int b])) := fun i a hi => push_old fr hi
  have B1 := B.same sm1
  have fr2 : Frsh ((H.push (.tup [.int 0, .int b])).push (.range 1 (n + 1))) := fr1.push
  have hI : (((H.push (.tup [.int 0, .int b])).push (.range 1 (n + 1))).push (.riter 1 (c : Int))).get (H.next + 1 + 1) = some (.riter 1 (c : Int)) := push_new
  have sm3 : Same H (((H.push (.tup [.int 0, .int b])).push (.range 1 (n + 1))).push (.riter 1 (c : Int))) := fun i a hi => push_old fr2 (push_old fr1 (sm1 i a hi))
  have hI0 : H.get (H.next + 1 + 1) = none := by
    induction e : H.get (H.next + 1 + 1) with
    | none => rfl
    | some a => have := fr _ a e; lia
  obtain ⟨F0, hF0⟩ : ∃ F0 : Frm, F0 = ⟨[(82, .ref 22), (18, .int k), (0, .int b), (50, .int b), (28, .int 0)], []⟩ := ⟨_, rfl⟩
  obtain ⟨F1, hF1⟩ : ∃ F1 : Frm, F1 = ⟨[(82, .ref 22), (18, .int k), (0, .int b), (50, .int b), (28, .int 0), (44, .int M)], []⟩ := ⟨_, rfl⟩
  have q1 : FP F1 b 0 M := by subst hF1; exact ⟨rfl, rfl, rfl, rfl⟩
  refine xe24 (ploop B hI0 c 1 b 0 _ F1 100 q1 sm3 fr2.push hI (by decide) (by lia) (by lia) (by lia)) fun F' H' e1 s1 f1 r1 => ?_
  refine b9 ?_
  refine ⟨H', fnD_ex rfl ⟨F', ?_⟩, s1⟩
  show tC _ _ ⟨[(82, .ref 22), (18, .int k), (0, .int b)], []⟩ H = _
  refine tC_nx (F1 := F0) (H1 := H.push (.tup [.int 0, .int b])) ?_ (tC_nx (F1 := F1) (H1 := H.push (.tup [.int 0, .int b])) ?_ (tC_nx (F1 := F') (H1 := H') ?_ ?_))
  · rw [e_214_0]
    refine tSwp_ok (i := H.next) (vs := [.int 0, .int b]) (eTup_ok (aC_ok rfl (aC_ok rfl aN_ok)) rfl) ?_ (by subst hF0; rfl)
    show (match (H.push (.tup [.int 0, .int b])).tup H.next with | some vs => if vs.length = 2 then some vs else none | none => none) = _
    rw [tup_of push_new]; rfl
  · rw [e_214_1]
    subst hF0
    have hp0 := pend_ok w (K := K) B1
    generalize callK w TT K true 207 FT = P at hp0 ⊢
    have hE : eItem (eAttr (alt1 (getA [266] 25) (getX [] 25)) (getV 82)) (getV 18) ⟨[(82, .ref 22), (18, .int k), (0, .int b), (50, .int b), (28, .int 0)], []⟩ (H.push (.tup [.int 0, .int b])) = .ok (.int (en.getD k.toNat 0)) (H.push (.tup [.int 0, .int b])) := by
      refine eItem_ok (x := .ref ie) (y := .int k) (H1 := H.push (.tup [.int 0, .int b])) (H2 := H.push (.tup [.int 0, .int b])) (eAttr_ok (v := .ref 22) (H1 := H.push (.tup [.int 0, .int b])) rfl (getA_ok B1.inst B1.dict B1.ee rfl)) rfl (getI_list (list_of B1.he) ⟨B1.kb.1, by have := B1.kb.2.1; lia⟩ ?_)
      rw [List.getElem?_map, List.getElem?_eq_getElem B1.kb.2.2, List.getD_eq_getElem?_getD, List.getElem?_eq_getElem B1.kb.2.2]; rfl
    refine tName_ok (v := .int M) (H1 := H.push (.tup [.int 0, .int b])) (eBin_ok (x := .int (Builtin.bitAnd lines (Builtin.bitNot sv))) (y := .int (en.getD k.toNat 0)) (H1 := H.push (.tup [.int 0, .int b])) (H2 := H.push (.tup [.int 0, .int b])) (eMeth0_ok (v := .ref 22) (H1 := H.push (.tup [.int 0, .int b])) (y := (22, 207, P)) rfl (mGet_one B1.inst B1.dict B1.np) hp0) hE ?_) ?_
    · rw [hM]; rfl
    · subst hF1; rfl
  · rw [e_214_2]
    have hDe : eCall (aC (eK (.int 1)) (aC (eBin (binD .Add) (eAttr (alt1 (getA [266] 89) (getX [] 89)) (getV 82)) (eK (.int 1))) (aN))) fRange F1 (H.push (.tup [.int 0, .int b])) = .ok (.ref (H.next + 1)) ((H.push (.tup [.int 0, .int b])).push (.range 1 (n + 1))) :=
      eCall_ok (aC_ok rfl (aC_ok (eBin_ok (eAttr_ok (getV_ok q1.fs) (getA_ok B1.inst B1.dict B1.e89 rfl)) rfl rfl) aN_ok)) rfl
    have hIt : iterD (.ref (H.next + 1)) ((H.push (.tup [.int 0, .int b])).push (.range 1 (n + 1))) = .ok (.ref (H.next + 1 + 1)) (((H.push (.tup [.int 0, .int b])).push (.range 1 (n + 1))).push (.riter 1 (c : Int))) := by
      have hr : ((H.push (.tup [.int 0, .int b])).push (.range 1 (n + 1))).range (H.next + 1) = some (1, n + 1) := by
        unfold Hp.range; rw [show ((H.push (.tup [.int 0, .int b])).push (.range 1 (n + 1))).get (H.next + 1) = some (.range 1 (n + 1)) from push_new]; rfl
      unfold iterD; dsimp only; rw [hr]; dsimp only
      rw [if_pos ⟨⟨by decide, by decide⟩, by lia, by lia⟩]
      rw [show (if (1 : Int) < n + 1 then n + 1 - 1 else 0) = (c : Int) from by split <;> lia]; rfl
    unfold tFor
    rw [hDe]; show (iterD _ _).toS F1 _ = _; rw [hIt]; exact e1
  · rw [e_214_3]
    refine tC_ret (tRet_ok ?_)
    rw [getV_ok r1, hM, hc]; rfl
end
end Mine
end
-- M74
section
open PySem PySem.W PyProof.Rows PySem.Calls PySem.Spec
set_option Elab.async false
set_option linter.all false
namespace Mine
set_option maxRecDepth 100000
-- comprehensions over a list
noncomputable def HX (Hb : Hp) (l : Nat) (acc : List AV) (k : Nat) : Hp := ⟨(Hb.next + 1, .list acc) :: (Hb.next, .liter l k) :: Hb.cells, Hb.next + 2⟩
theorem HX_i {Hb : Hp} {l k : Nat} {acc : List AV} : (HX Hb l acc k).get Hb.next = some (.liter l k) := by
  show getO _ (_ :: _) = _
  rw [getO_cons, show (Hb.next == Hb.next + 1) = false from by simp, getO_cons, beq_self_eq_true]
theorem HX_j {Hb : Hp} {l k : Nat} {acc : List AV} : (HX Hb l acc k).get (Hb.next + 1) = some (.list acc) := by
  show getO _ (_ :: _) = _
  rw [getO_cons, beq_self_eq_true]
theorem HX_old {Hb : Hp} {l k : Nat} {acc : List AV} (fr : Frsh Hb) : Same Hb (HX Hb l acc k) := fun i a h => by
  have := fr i a h
  show getO _ (_ :: _) = _
  rw [getO_cons, show (i == Hb.next + 1) = false from by simp; lia, getO_cons, show (i == Hb.next) = false from by simp; lia]
  exact h
theorem HX_seti {Hb : Hp} {l k k' : Nat} {acc : List AV} : (HX Hb l acc k).set Hb.next (.liter l k') = HX Hb l acc k' := by
  show Hp.mk (setL _ _ (_ :: _)) _ = _
  rw [setL_cons, if_neg (by show ¬(Hb.next + 1 = Hb.next); lia), setL_cons, if_pos rfl]; rfl
theorem HX_setj {Hb : Hp} {l k : Nat} {acc acc' : List AV} : (HX Hb l acc k).set (Hb.next + 1) (.list acc') = HX Hb l acc' k := by
  show Hp.mk (setL _ _ (_ :: _)) _ = _
  rw [setL_cons, if_pos rfl]; rfl
theorem del_out {i : Nat} : ∀ {l : List (Nat × AO)}, (∀ p ∈ l, p.1 ≠ i) → delL i l = l
  | [], _ => rfl
  | p :: l, h => by rw [delL_cons, if_neg (h p (.head _)), del_out fun q hq => h q (.tail _ hq)]
theorem get_mem : ∀ {l : List (Nat × AO)} {p : Nat × AO}, p ∈ l → ∃ a, getO p.1 l = some a
  | [], _, h => nomatch h
  | q :: l, p, h => by
    rw [show q :: l = (q.1, q.2) :: l from rfl, getO_cons]
    by_cases e : p.1 = q.1
    · rw [e, beq_self_eq_true]; exact ⟨_, rfl⟩
    · rw [show (p.1 == q.1) = false from by simpa using e]
      rcases List.mem_cons.mp h with rfl | h
      · exact absurd rfl e
      · exact get_mem h
theorem HX_del {Hb : Hp} {l k : Nat} {acc : List AV} (fr : Frsh Hb) : (HX Hb l acc k).del Hb.next = ⟨(Hb.next + 1, .list acc) :: Hb.cells, Hb.next + 2⟩ := by
  show Hp.mk (delL _ (_ :: _)) _ = _
  rw [delL_cons, if_neg (by show ¬(Hb.next + 1 = Hb.next); lia), delL_cons, if_pos rfl, del_out fun p hp e => by
    refine xe1 (get_mem hp) fun a h => ?_
    have := fr p.1 a h; lia]; rfl
theorem putS_one {x : Nat} {v : AV} {loc : List (Nat × AV)} (h : loc = [] ∨ ∃ u, loc = [(x, u)]) : putS x v loc = [(x, v)] := by
  rcases h with rfl | ⟨u, rfl⟩
  · rfl
  · show (if x = x then _ else _) = _
    rw [if_pos rfl]
theorem comp_lst {x : Nat} {T : TX} {E : EX} {Hb : Hp} (fr : Frsh Hb) {l : Nat} {vs : List AV} (hl : Hb.get l = some (.list vs)) {cl : List (Nat × Nat)} {p : AV → Bool} {g : AV → AV} (hT : ∀ v ∈ vs, ∀ H', Same Hb H' → T ⟨[(x, v)], cl⟩ H' = .ok (p v) H') (hE : ∀ v ∈ vs, ∀ H', Same Hb H' → E ⟨[(x, v)], cl⟩ H' = .ok (g v) H') :
    ∀ (rest : List AV) (k : Nat) (acc : List AV) (fuel : Nat) (loc : List (Nat × AV)), vs.drop k = rest → rest.length < fuel → acc.length + rest.length ≤ 1000 → (loc = [] ∨ ∃ u, loc = [(x, u)]) →
    compLoop x T E Hb.next (Hb.next + 1) fuel ⟨loc, cl⟩ (HX Hb l acc k) = .ok () ⟨(Hb.next + 1, .list (acc ++ (rest.filter p).map g)) :: Hb.cells, Hb.next + 2⟩ := by
  intro rest
  induction rest with
  | nil =>
    intro k acc fuel loc hd hf ha hloc
    obtain ⟨fuel, rfl⟩ : ∃ f, fuel = f + 1 := ⟨fuel - 1, by simp at hf; lia⟩
    have nd : nextD Hb.next (HX Hb l acc k) = some (none, (HX Hb l acc k).del Hb.next) := by
      unfold nextD; rw [HX_i]
      show (match (HX Hb l acc k).itm l true with | some vs => (match vs[k]? with | some v => some (some v, _) | none => some (none, (HX Hb l acc k).del Hb.next)) | none => none) = _
      rw [show (HX Hb l acc k).itm l true = some vs from list_of (HX_old fr l _ hl)]
      dsimp only
      rw [show vs[k]? = none from by rw [List.getElem?_eq_none_iff]; exact List.drop_eq_nil_iff.mp hd]
    unfold compLoop; rw [nd]
    show Res.ok () _ = _
    rw [HX_del fr, List.filter_nil, List.map_nil, List.append_nil]
  | cons v rest ih =>
    intro k acc fuel loc hd hf ha hloc
    obtain ⟨fuel, rfl⟩ : ∃ f, fuel = f + 1 := ⟨fuel - 1, by simp at hf; lia⟩
    have hk : vs[k]? = some v := by
      have : (vs.drop k)[0]? = some v := by rw [hd]; rfl
      rwa [List.getElem?_drop, Nat.add_zero] at this
    have hv : v ∈ vs := List.mem_of_getElem? hk
    have hd' : vs.drop (k + 1) = rest := by
      rw [show k + 1 = k + 1 from rfl, ← List.drop_drop, hd]; rfl
    have nd : nextD Hb.next (HX Hb l acc k) = some (some v, HX Hb l acc (k + 1)) := by
      unfold nextD; rw [HX_i]
      show (match (HX Hb l acc k).itm l true with | some vs => (match vs[k]? with | some v => some (some v, (HX Hb l acc k).set Hb.next (mkIt l (k + 1) true)) | none => some (none, _)) | none => none) = _
      rw [show (HX Hb l acc k).itm l true = some vs from list_of (HX_old fr l _ hl)]
      dsimp only
      rw [hk]
      show some (some v, (HX Hb l acc k).set Hb.next (.liter l (k + 1))) = _
      rw [HX_seti]
    unfold compLoop; rw [nd]; dsimp only
    rw [putS_one hloc, hT v hv _ (HX_old fr)]
    have hf' : rest.length < fuel := by simp at hf; lia
    induction hp : p v with
    | true =>
      dsimp only
      rw [hE v hv _ (HX_old fr)]; dsimp only
      have ap : appD (.ref (Hb.next + 1)) (g v) (HX Hb l acc (k + 1)) = .ok .none (HX Hb l (acc ++ [g v]) (k + 1)) := by
        unfold appD; dsimp only; rw [list_of HX_j]; dsimp only
        rw [if_pos (by simp at ha; lia), HX_setj]
      rw [ap]; dsimp only
      rw [ih (k + 1) (acc ++ [g v]) fuel _ hd' hf' (by simp at ha ⊢; lia) (.inr ⟨_, rfl⟩)]
      rw [List.filter_cons, if_pos hp, List.map_cons, List.append_assoc]; rfl
    | false =>
      dsimp only
      rw [ih (k + 1) acc fuel _ hd' hf' (by simp at ha ⊢; lia) (.inr ⟨_, rfl⟩)]
      rw [List.filter_cons, if_neg (by rw [hp]; decide)]
theorem eComp_lst {x : Nat} {sc : Scope} {De : EX} {T : TX} {E : EX} {F : Frm} {H Hb : Hp} {l : Nat} {cl : List (Nat × Nat)} (hc : closD F.cl sc.names [] = some cl) (hD : De F H = .ok (.ref l) Hb) (fr : Frsh Hb) {vs : List AV} (hl : Hb.get l = some (.list vs)) {p : AV → Bool} {g : AV → AV} (hT : ∀ v ∈ vs, ∀ H', Same Hb H' → T ⟨[(x, v)], cl⟩ H' = .ok (p v) H') (hE : ∀ v ∈ vs, ∀ H', Same Hb H' → E ⟨[(x, v)], cl⟩ H' = .ok (g v) H') (hn : vs.length < 100) :
    eComp x sc De T E F H = .ok (.ref (Hb.next + 1)) ⟨(Hb.next + 1, .list ((vs.filter p).map g)) :: Hb.cells, Hb.next + 2⟩ := by
  unfold eComp; rw [hc]; dsimp only; rw [hD]
  show (iterD (.ref l) Hb).bind _ = _
  have hr : Hb.range l = none := by unfold Hp.range; rw [hl]; rfl
  have : iterD (.ref l) Hb = .ok (.ref Hb.next) (Hb.push (.liter l 0)) := by
    unfold iterD; dsimp only; rw [hr]; dsimp only; rw [list_of hl]
  rw [this]
  show toAV (compLoop x T E Hb.next (Hb.next + 1) 100 ⟨[], cl⟩ (HX Hb l [] 0)) (.ref (Hb.next + 1)) = _
  rw [comp_lst fr hl hT hE vs 0 [] 100 [] rfl (by lia) (by simp; lia) (.inl rfl)]; rfl
-- the law's bits
theorem intsP : ∀ (l : List Int), intsA ((l.map fun x => AV.int ((2 : Int) ^ x.toNat))) = some (l.map fun x => (2 : Int) ^ x.toNat)
  | [] => rfl
  | x :: l => by rw [List.map_cons, List.map_cons]; unfold intsA; rw [intsP l]; rfl
theorem perm_sum {l r : List Int} (h : l.Perm r) : l.sum = r.sum := by
  induction h with
  | nil => rfl
  | cons x _ ih => rw [List.sum_cons, List.sum_cons, ih]
  | swap x y l => rw [List.sum_cons, List.sum_cons, List.sum_cons, List.sum_cons]; lia
  | trans _ _ h1 h2 => exact h1.trans h2
theorem srt_len (l : List Int) : (srtI l).length = l.length := (srtI_perm l).length_eq
section
variable (w : World) {K : Kx}
theorem cs592 : closD [] (cmpS w 592 0).names [] = some [] := by kernel_rfl
theorem bits_ok {H : Hp} {i : Nat} {l : List Int} (fr : Frsh H) (h : H.get i = some (.list (l.map .int))) (hl : l.length < 64) (hb : ∀ x ∈ l, 0 ≤ x ∧ x ≤ 40) : ∃ H1, fnK w TT (plainK K) true (592, 1, none) [.ref i] H = .ok (.int (bitsOf l)) H1 ∧ Same H H1 := by
  rw [q_592]
  have fr1 : Frsh (H.push (.list ((srtI l).map .int))) := fr.push
  have ec := eComp_lst (x := 107) (sc := cmpS w 592 0) (De := eCall (aC (getV 89) (aN)) fSorted) (T := bAndN) (E := eBin (binD .Pow) (eK (.int 2)) (getV 107)) (F := ⟨[(89, .ref i)], []⟩) (H := H) (Hb := H.push (.list ((srtI l).map .int))) (l := H.next) (cs592 w) (by
      refine eCall_ok (aC_ok rfl aN_ok) ?_
      unfold fSorted; dsimp only; rw [list_of h]; dsimp only; rw [intsA_map]; dsimp only; rw [if_pos hl]) fr1 push_new (p := fun _ => true) (g := fun v => match v with | .int x => .int (2 ^ x.toNat) | v => v) (fun v hv H' s => rfl) (fun v hv H' s => by
      obtain ⟨x, hx, rfl⟩ := List.mem_map.mp hv
      have hx := hb x ((srtI_perm l).mem_iff.mp hx)
      refine eBin_ok rfl rfl ?_
      show (match fPow 2 x with | some v => Res.ok v H' | none => .stuck) = _
      unfold fPow; rw [if_pos ⟨hx.1, by lia, by decide⟩]) (by rw [List.length_map, srt_len]; lia)
  rw [List.filter_eq_self.mpr (fun _ _ => rfl), List.map_map] at ec
  refine ⟨⟨(H.next + 1 + 1, .list ((srtI l).map fun x => AV.int ((2 : Int) ^ x.toNat))) :: (H.push (.list ((srtI l).map .int))).cells, H.next + 1 + 2⟩, fnD_ex rfl ⟨⟨[(89, .ref i)], []⟩, ?_⟩, ?_⟩
  · show tC _ _ ⟨[(89, .ref i)], []⟩ H = _
    rw [e_592_0]
    obtain ⟨Hx, hx⟩ : ∃ Hx : Hp, Hx = ⟨(H.next + 1 + 1, .list ((srtI l).map fun x => AV.int ((2 : Int) ^ x.toNat))) :: (H.push (.list ((srtI l).map .int))).cells, H.next + 1 + 2⟩ := ⟨_, rfl⟩
    have hl2 : Hx.list (H.next + 1 + 1) = some ((srtI l).map fun x => AV.int ((2 : Int) ^ x.toNat)) := list_of (by rw [hx]; show getO _ (_ :: _) = _; rw [getO_cons, beq_self_eq_true])
    have e : fSum [.ref (H.next + 1 + 1)] Hx = .ok (.int (bitsOf l)) Hx := by
      unfold fSum; dsimp only; rw [hl2]; dsimp only; rw [intsP]; dsimp only
      have : ((srtI l).map fun x => (2 : Int) ^ x.toNat).sum = bitsOf l := perm_sum ((srtI_perm l).map _)
      rw [this]
    rw [← hx]
    refine tC_ret (tRet_ok (eCall_ok (aC_ok (x := .ref (H.next + 1 + 1)) (H1 := Hx) ?_ aN_ok) e))
    rw [hx]; exact ec
  · intro j a hj
    have h1 := fr j a hj
    show getO _ (_ :: _) = _
    rw [getO_cons, show (j == H.next + 1 + 1) = false from by simp; lia]
    exact push_old fr hj
end
end Mine
end
-- M75
section
open PySem PySem.W PyProof.Rows PySem.Calls PySem.Spec
set_option Elab.async false
set_option linter.all false
namespace Mine
set_option maxRecDepth 100000
-- the least of the rows is the greatest priority's first
noncomputable def fldR (c : Int × Int) (l : List (Int × Int)) : Int × Int := l.foldl (fun c p => if ltP p c then p else c) c
theorem argB {p : Int × Int} {t : List (Int × Int)} : ∀ k, k ≤ t.length → (p :: t)[argBest (btP (p :: t)) k]? = some (fldR p (t.take k))
  | 0, _ => rfl
  | k + 1, h => by
    have ih := argB (p := p) (t := t) k (by lia)
    have hk : t[k]? = some t[k] := List.getElem?_eq_getElem (by lia)
    have e1 : t.take (k + 1) = t.take k ++ [t[k]] := by rw [List.take_succ, hk]; rfl
    have e2 : fldR p (t.take (k + 1)) = if ltP t[k] (fldR p (t.take k)) then t[k] else fldR p (t.take k) := by
      rw [e1]; unfold fldR; rw [List.foldl_append]; rfl
    have e3 : btP (p :: t) (k + 1) (argBest (btP (p :: t)) k) = ltP t[k] (fldR p (t.take k)) := by
      show ltP ((p :: t)[k + 1]?.getD (0, 0)) ((p :: t)[argBest (btP (p :: t)) k]?.getD (0, 0)) = _
      rw [ih, List.getElem?_cons_succ, hk]; rfl
    rw [e2]
    show (p :: t)[if btP (p :: t) (k + 1) (argBest (btP (p :: t)) k) then k + 1 else argBest (btP (p :: t)) k]? = _
    rw [e3]
    split
    · rw [List.getElem?_cons_succ, hk]
    · exact ih
theorem pick_cons {p : Int × Int} {t : List (Int × Int)} : pick (p :: t) = (fldR p t).2 := by
  unfold pick
  rw [if_neg (by simp)]
  have := argB (p := p) (t := t) t.length (Nat.le_refl _)
  rw [show (p :: t).length - 1 = t.length from by simp, this, List.take_length]; rfl
section
variable {c : Int → Bool} {r : Int → Int} {b : Int}
noncomputable def rw1 (c : Int → Bool) (r : Int → Int) (b x : Int) : List (Int × Int) := if c x && decide (b < r x) then [(-r x, x)] else []
theorem fld_bst : ∀ (k : Nat) (x m f : Int), f < x → b < m → (fldR (-m, f) ((wiresF k x).flatMap (rw1 c r b))).2 = bst c r m (wiresF k x) f
  | 0, x, m, f, _, _ => rfl
  | k + 1, x, m, f, hf, hm => by
    have ih1 := fld_bst k (x + 1) (r x) x (by lia)
    have ih2 := fld_bst k (x + 1) m f (by lia) hm
    show (fldR (-m, f) ((x :: wiresF k (x + 1)).flatMap (rw1 c r b))).2 = bst c r m (x :: wiresF k (x + 1)) f
    rw [List.flatMap_cons, bst_cons]
    by_cases hc : c x = true
    · by_cases hr : m < r x
      · rw [if_pos (by simp [hc, hr])]
        rw [show rw1 c r b x = [(-r x, x)] from by unfold rw1; rw [if_pos (by simp [hc]; lia)]]
        rw [show fldR (-m, f) ([(-r x, x)] ++ (wiresF k (x + 1)).flatMap (rw1 c r b)) = fldR (-r x, x) ((wiresF k (x + 1)).flatMap (rw1 c r b)) from by
          show fldR (if ltP (-r x, x) (-m, f) then (-r x, x) else (-m, f)) _ = _
          rw [show ltP (-r x, x) (-m, f) = true from by unfold ltP; rw [if_neg (by show ¬ -r x = -m; lia)]; simp; lia]; rfl]
        exact ih1 (by lia)
      · rw [if_neg (by simp [hr])]
        have : fldR (-m, f) (rw1 c r b x ++ (wiresF k (x + 1)).flatMap (rw1 c r b)) = fldR (-m, f) ((wiresF k (x + 1)).flatMap (rw1 c r b)) := by
          unfold rw1
          split
          · show fldR (if ltP (-r x, x) (-m, f) then (-r x, x) else (-m, f)) _ = _
            rw [show ltP (-r x, x) (-m, f) = false from by
              unfold ltP
              split
              · simp; lia
              · simp; lia]; rfl
          · rfl
        rw [this]; exact ih2
    · rw [if_neg (by simp [hc])]
      rw [show rw1 c r b x = [] from by unfold rw1; rw [if_neg (by simp [hc])]]
      exact ih2
theorem pick_bst1 : ∀ (k : Nat) (x : Int), 0 < x → pick ((wiresF k x).flatMap (rw1 c r b)) = bst c r b (wiresF k x) 0
  | 0, x, _ => rfl
  | k + 1, x, hx => by
    show pick ((x :: wiresF k (x + 1)).flatMap (rw1 c r b)) = bst c r b (x :: wiresF k (x + 1)) 0
    rw [List.flatMap_cons, bst_cons]
    by_cases h : (c x && decide (b < r x)) = true
    · rw [if_pos h, show rw1 c r b x = [(-r x, x)] from by unfold rw1; rw [if_pos h]]
      show pick ((-r x, x) :: (wiresF k (x + 1)).flatMap (rw1 c r b)) = _
      rw [pick_cons]
      exact fld_bst k (x + 1) (r x) x (by lia) (by simp at h; exact h.2)
    · rw [if_neg h, show rw1 c r b x = [] from by unfold rw1; rw [if_neg h]]
      exact pick_bst1 k (x + 1) (by lia)
end
theorem pick_law {n b : Int} {up served lt ranks : List Int} : pick ((wires n).flatMap (rowOf up served lt ranks b)) = lawBest n up served lt ranks b := by
  have e : rowOf up served lt ranks b = rw1 (fun x => mem up x && !mem served x && mem lt x) (rk ranks) b := by
    funext x
    unfold rowOf rw1
    rw [show (mem up x && (!mem served x && mem lt x)) = (mem up x && !mem served x && mem lt x) from (Bool.and_assoc _ _ _).symm]
  rw [e]
  exact pick_bst1 n.toNat 1 (by decide)
-- the foretellings are sound
theorem rf2_eq {x : AV} {k : Nat} (h : rf2 x k = true) : x = .ref k := by
  unfold rf2 at h
  cases x <;> first | exact congrArg AV.ref (eq_of_beq h) | cases h
theorem int_eq {x : AV} {i : Int} (h : x.int? = some i) : x = .int i := by
  cases x <;> first | (cases h; rfl) | cases h
theorem rfint {x y : AV} {k : Nat} {q : Int} (h : rfI k x y = some q) : x = .ref k ∧ y = .int q := by
  unfold rfI at h
  split at h
  · rename_i e; exact ⟨rf2_eq e, int_eq h⟩
  · exact no_some9 h
theorem fldI_eq {d : List (Nat × AV)} {k : Nat} {n : Int} (h : fldI d k = some n) : d.lookup k = some (.int n) := by
  unfold fldI at h
  cases e : d.lookup k with
  | none => rw [e] at h; exact no_some9 h
  | some v => rw [e] at h; rw [int_eq h]
theorem vw1_eq {xs : List AV} {x : AV} (h : vw1 xs = some x) : xs = [x] := by
  cases xs with
  | nil => exact no_some9 h
  | cons x r =>
    cases r with
    | nil => obtain rfl := Option.some.inj h; rfl
    | cons _ _ => exact no_some9 h
theorem vw2_eq {xs : List AV} {t : AV × AV} (h : vw2 xs = some t) : xs = [t.1, t.2] := by
  cases xs with
  | nil => exact no_some9 h
  | cons x r =>
    cases r with
    | nil => exact no_some9 h
    | cons y r =>
      cases r with
      | nil => obtain rfl := Option.some.inj h; rfl
      | cons _ _ => exact no_some9 h
theorem vw3_eq {xs : List AV} {t : AV × AV × AV} (h : vw3 xs = some t) : xs = [t.1, t.2.1, t.2.2] := by
  cases xs with
  | nil => exact no_some9 h
  | cons x r =>
    cases r with
    | nil => exact no_some9 h
    | cons y r =>
      cases r with
      | nil => exact no_some9 h
      | cons z r =>
        cases r with
        | nil => obtain rfl := Option.some.inj h; rfl
        | cons _ _ => exact no_some9 h
theorem plicD_eq {H : Hp} {d : List (Nat × AV)} (h : plicD H = some d) : ∃ di, H.get 22 = some (.inst 266 di) ∧ H.get di = some (.dict d) ∧ d.lookup 63 = none := by
  obtain ⟨⟨C, di⟩, q1, q2⟩ := Option.bind_eq_some_iff.mp h
  dsimp only at q2
  split at q2
  · rename_i hC
    subst hC
    refine xe12 (Option.bind_eq_some_iff.mp q2) fun d' q3 q4 => ?_
    cases e : d'.lookup 63 with
    | none => rw [e] at q4; obtain rfl := Option.some.inj q4; exact ⟨di, Hp.inst_eq q1, Hp.dict_eq q3, e⟩
    | some v => rw [e] at q4; exact no_some9 q4
  · exact no_some9 q2
theorem box_eq {H : Hp} {b : List AV × Int} (h : boxOf H = some b) : H.get 9 = some (.list [.ref 8, .int b.2]) ∧ H.get 8 = some (.list b.1) := by
  unfold boxOf at h
  refine hide fun q9 b9 => ?_
  refine xe12 (Option.bind_eq_some_iff.mp h) fun l e1 h => ?_
  refine b9 ?_
  split at h
  · split at h
    · rename_i e2
      refine hide fun q9 b9 => ?_
      refine xe12 (Option.bind_eq_some_iff.mp h) fun n e3 h => ?_
      refine b9 ?_
      obtain ⟨vs, e4, rfl⟩ := Option.map_eq_some_iff.mp h
      have := rf2_eq e2
      have h3 := int_eq e3
      subst this; subst h3
      exact ⟨list_get e1, list_get e4⟩
    · exact no_some9 h
  · exact no_some9 h
section
variable (w : World) {K : Kx}
noncomputable abbrev OrcK (D D' : RD) : Prop := ∀ xs H, D' xs H = D xs H ∨ ∃ p v Hx, D' xs H = .guard p (.ok v (bmp Hx)) ∧ noRef v = true ∧ (p → (∀ i a, H.get i = some a → i < H.next) → ∃ H1, D xs H = .ok v H1 ∧ (H1 = Hx ∨ (Hx = H ∧ Same H H1)))
theorem orcK {D : RD} {V : List AV → Hp → Option (Prop × Int × Hp)} (k : ∀ xs H r, V xs H = some r → r.1 → (∀ i a, H.get i = some a → i < H.next) → ∃ H1, D xs H = .ok (.int r.2.1) H1 ∧ (H1 = r.2.2 ∨ (r.2.2 = H ∧ Same H H1))) : OrcK D (hnd V D) := fun xs H => by
  unfold hnd
  cases e : V xs H with
  | none => exact .inl rfl
  | some r => exact .inr ⟨r.1, _, r.2.2, rfl, rfl, k xs H r e⟩
theorem take_s (o : Orc) : OrcK (callK w TT (plainK K) true 566 FT) (hnd (takeV o) (callK w TT (plainK K) true 566 FT)) := orcK fun xs H r h => by
  refine hide fun q9 b9 => ?_
  obtain ⟨⟨x, y⟩, e0, h⟩ := Option.bind_eq_some_iff.mp h
  refine xe12 (Option.bind_eq_some_iff.mp h) fun q e1 h => ?_
  refine xe12 (Option.bind_eq_some_iff.mp h) fun a e2 h => ?_
  refine xe12 (Option.map_eq_some_iff.mp h) fun b e3 e => ?_
  refine xa2 (rfint e1) fun r1 r2 => ?_
  refine xa2 (box_eq e3) fun h9 h8 => ?_
  have e0 : xs = [x, y] := vw2_eq e0
  refine b9 ?_
  subst e; subst e0
  dsimp only at r1 r2 ⊢
  subst r1; subst r2
  intro ⟨hq, items, hi, hl, hd⟩ _
  refine ⟨_, ?_, .inl rfl⟩
  rw [c_566, take_ok w h9 (by rw [h8, show b.1 = items.map AV.int from hi]) hl hq, hd, show b.1 = items.map AV.int from hi]
theorem c_573 : callK w TT K true 573 FT = fnK w TT K true (573, 2, none) := by kernel_rfl
theorem more_ok {H : Hp} {items : List Int} {n q : Int} (h9 : H.get 9 = some (.list [.ref 8, .int n])) (h8 : H.get 8 = some (.list (items.map .int))) (hl : items.length ≤ 100) (hq : 0 < q) :
    fnK w TT (plainK K) true (573, 2, none) [.ref 9, .int q] H = .ok (.int (mor items q)) (H.set 8 (.list (items.map AV.int).tail)) := by
  rw [q_573]
  have l9 := list_of h9
  have l8 : H.list 8 = some (items.map AV.int) := list_of h8
  have g0 : eItem (getV 11) (eK (.int 0)) ⟨[(11, .ref 9), (47, .int q)], []⟩ H = .ok (.ref 8) H := eItem_ok rfl rfl (getI_list l9 (by decide) rfl)
  have c0 : bCmp (cmpD TT .Gt) (eCall (aC (eItem (getV 11) (eK (.int 0))) aN) (altN fLen (lenG K.scr))) (eK (.int 0)) ⟨[(11, .ref 9), (47, .int q)], []⟩ H = .ok (decide (0 < ((items.map AV.int).length : Int))) H := by
    refine bCmp_ok (eCall_ok (aC_ok g0 aN_ok) (r := .ok (AV.int ((items.map AV.int).length : Int)) H) ?_) rfl rfl
    have : fLen [.ref 8] H = .ok (AV.int ((items.map AV.int).length : Int)) H := by
      show (match H.list 8 with | some vs => if vs.length ≤ 1000000 then Res.ok (AV.int (vs.length : Int)) H else .stuck | _ => .stuck) = _
      rw [l8]; exact if_pos (by rw [List.length_map]; lia)
    unfold altN; rw [this]; rfl
  refine fnD_ex rfl ⟨⟨[(11, .ref 9), (47, .int q)], []⟩, ?_⟩
  show tC _ _ ⟨[(11, .ref 9), (47, .int q)], []⟩ H = _
  rw [e_573_0]
  cases items with
  | nil =>
    rw [show H.set 8 (.list (([] : List Int).map AV.int).tail) = H from set_eq h8]
    exact tC_ret (tRet_ok (eIf_ok c0 rfl))
  | cons x r =>
    refine tC_ret (tRet_ok (eIf_ok c0 ?_))
    rw [if_pos (by simp)]
    refine eBin_ok (x := .int x) (y := .int q) (H1 := H.set 8 (.list (r.map .int))) (H2 := H.set 8 (.list (r.map .int))) (eLm_ok g0 (lst_of l8) rfl ?_) rfl ?_
    · show (if (0 : Int) = 0 then (match H.list 8 with | some (v :: vs) => if vs.length ≤ 1000 then Res.ok v (H.set 8 (.list vs)) else .stuck | _ => .stuck) else .stuck) = _
      rw [if_pos rfl, l8]
      exact if_pos (by rw [List.length_map]; simp at hl; lia)
    · show (match fMod _ q with | some v => Res.ok v _ | none => .stuck) = _
      unfold fMod; rw [if_pos hq]; rfl
theorem more_s (o : Orc) : OrcK (callK w TT (plainK K) true 573 FT) (hnd (moreV o) (callK w TT (plainK K) true 573 FT)) := orcK fun xs H r h => by
  refine hide fun q9 b9 => ?_
  obtain ⟨⟨x, y⟩, e0, h⟩ := Option.bind_eq_some_iff.mp h
  refine xe12 (Option.bind_eq_some_iff.mp h) fun q e1 h => ?_
  refine xe12 (Option.bind_eq_some_iff.mp h) fun a e2 h => ?_
  refine xe12 (Option.map_eq_some_iff.mp h) fun b e3 e => ?_
  refine xa2 (rfint e1) fun r1 r2 => ?_
  refine xa2 (box_eq e3) fun h9 h8 => ?_
  have e0 : xs = [x, y] := vw2_eq e0
  refine b9 ?_
  subst e; subst e0
  dsimp only at r1 r2 ⊢
  subst r1; subst r2
  intro ⟨hq, items, hi, hl, hd⟩ _
  refine ⟨_, ?_, .inl rfl⟩
  rw [c_573, more_ok w h9 (by rw [h8, show b.1 = items.map AV.int from hi]) hl hq, hd, show b.1 = items.map AV.int from hi]
theorem c_587 : callK w TT K true 587 FT = fnK w TT K true (587, 3, none) := by kernel_rfl
theorem c_592 : callK w TT K true 592 FT = fnK w TT K true (592, 1, none) := by kernel_rfl
theorem c_214 : callK w TT K true 214 FT = fnK w TT K true (214, 3, none) := by kernel_rfl
theorem bits_s (o : Orc) : OrcK (callK w TT (plainK K) true 592 FT) (hnd (bitsV o) (callK w TT (plainK K) true 592 FT)) := orcK fun xs H r h => by
  refine hide fun q9 b9 => ?_
  refine xe12 (Option.bind_eq_some_iff.mp h) fun x e0 h => ?_
  refine xe12 (Option.bind_eq_some_iff.mp h) fun vs e1 h => ?_
  refine xe12 (Option.map_eq_some_iff.mp h) fun a e2 e => ?_
  refine xe12 (lstAt_some e1) fun i h1 h2 => ?_
  have e0 : xs = [x] := vw1_eq e0
  refine b9 ?_
  subst e; subst e0
  obtain rfl := Option.some.inj h1
  intro ⟨l, hi, hl, hb, hd⟩ fr
  refine xe12 (bits_ok w (K := K) fr (by rw [list_get h2, show vs = l.map AV.int from hi]) hl hb) fun H1 h3 h4 => ?_
  exact ⟨H1, by rw [c_592, h3, hd], .inr ⟨rfl, h4⟩⟩
theorem best_s (o : Orc) : OrcK (callK w TT (plainK K) true 587 FT) (hnd (bestV o) (callK w TT (plainK K) true 587 FT)) := orcK fun xs H r h => by
  refine hide fun q9 b9 => ?_
  obtain ⟨⟨x, y, z⟩, e0, h⟩ := Option.bind_eq_some_iff.mp h
  refine xe12 (Option.bind_eq_some_iff.mp h) fun k e1 h => ?_
  refine xe12 (Option.bind_eq_some_iff.mp h) fun b e2 h => ?_
  refine xe12 (Option.bind_eq_some_iff.mp h) fun a e3 h => ?_
  refine xe12 (Option.bind_eq_some_iff.mp h) fun d e4 h => ?_
  refine xe12 (Option.bind_eq_some_iff.mp h) fun n f1 h => ?_
  refine xe12 (Option.bind_eq_some_iff.mp h) fun vu f2 h => ?_
  refine xe12 (Option.bind_eq_some_iff.mp h) fun vs f3 h => ?_
  refine xe12 (Option.bind_eq_some_iff.mp h) fun ls f4 h => ?_
  refine xe12 (Option.bind_eq_some_iff.mp h) fun vl f6 h => ?_
  refine xe12 (Option.map_eq_some_iff.mp h) fun vr f5 e => ?_
  clear h
  refine xa2 (rfint e1) fun r1 r2 => ?_
  have r3 := int_eq e2
  have f1 := fldI_eq f1
  refine xe12 (lstAt_some f2) fun iu f2a f2b => ?_
  refine xe12 (lstAt_some f3) fun is f3a f3b => ?_
  refine xe12 (lstAt_some f4) fun iL f4c f4d => ?_
  refine xe12 (lstAt_some f5) fun ir f5a f5b => ?_
  have e0 : xs = [x, y, z] := vw3_eq e0
  split at f6
  · rename_i hk
    refine xe12 (lstAt_some f6) fun il f4e f4f => ?_
    refine b9 ?_
    subst e; subst e0
    dsimp only at r1 r2 r3 ⊢
    subst r1; subst r2; subst r3
    intro ⟨hn0, hn1, up, served, lt, ranks, g1, g2, g3, g4, g5, g6⟩ fr
    refine xe12 (best_ok w (K := K) (H := H) (n := n) (k := k) (b := b) (up := up) (served := served) (lt := lt) (ranks := ranks) (d := d) (iu := iu) (is := is) (iL := iL) (il := il) (ir := ir) (ls := ls) ⟨Hp.pd_eq e4, f1, f2a, by rw [list_get f2b, show vu = up.map AV.int from g1], f3a, by rw [list_get f3b, show vs = served.map AV.int from g2], f4c, list_get f4d, hk, f4e, by rw [list_get f4f, show vl = lt.map AV.int from g3], f5a, by rw [list_get f5b, show vr = ranks.map AV.int from g4]⟩ fr ⟨hn0, hn1⟩ g5) fun H1 h3 h4 => ?_
    exact ⟨H1, by rw [c_587, h3, pick_law, g6], .inr ⟨rfl, h4⟩⟩
  · exact no_some9 f6
theorem pbest_s (o : Orc) : OrcK (callK w TT (plain2 w K) true 214 FT) (hnd (pbestV o) (callK w TT (plain2 w K) true 214 FT)) := orcK fun xs H r h => by
  refine hide fun q9 b9 => ?_
  obtain ⟨⟨x, y, z⟩, e0, h⟩ := Option.bind_eq_some_iff.mp h
  refine xe12 (Option.bind_eq_some_iff.mp h) fun k e1 h => ?_
  refine xe12 (Option.bind_eq_some_iff.mp h) fun b e2 h => ?_
  refine xe12 (Option.bind_eq_some_iff.mp h) fun a e3 h => ?_
  refine xe12 (Option.bind_eq_some_iff.mp h) fun d e4 h => ?_
  refine xe12 (Option.bind_eq_some_iff.mp h) fun n f1 h => ?_
  refine xe12 (Option.bind_eq_some_iff.mp h) fun li f2 h => ?_
  refine xe12 (Option.bind_eq_some_iff.mp h) fun sv f3 h => ?_
  refine xe12 (Option.bind_eq_some_iff.mp h) fun ve f4 h => ?_
  refine xe12 (Option.map_eq_some_iff.mp h) fun vr f5 e => ?_
  clear h
  refine xa2 (rfint e1) fun r1 r2 => ?_
  have r3 := int_eq e2
  refine xe13 (plicD_eq e4) fun di q1 q3 q4 => ?_
  have f1 := fldI_eq f1
  have f2 := fldI_eq f2
  have f3 := fldI_eq f3
  refine xe12 (lstAt_some f4) fun ie f4a f4b => ?_
  refine xe12 (lstAt_some f5) fun ip f5a f5b => ?_
  have e0 : xs = [x, y, z] := vw3_eq e0
  refine b9 ?_
  subst e; subst e0
  dsimp only at r1 r2 r3 ⊢
  subst r1; subst r2; subst r3
  intro ⟨hn0, hn1, hk0, hk1, en, ranks, g1, g2, g3, g4, g5⟩ fr
  refine xe12 (pbest_ok w (K := K) (H := H) (n := n) (lines := li) (sv := sv) (k := k) (b := b) (en := en) (ranks := ranks) (d := d) (di := di) (ie := ie) (ip := ip) ⟨q1, q3, q4, f1, f2, f3, f4a, by rw [list_get f4b, show ve = en.map AV.int from g1], f5a, by rw [list_get f5b, show vr = ranks.map AV.int from g2], ⟨hk0, hk1, g4⟩⟩ fr ⟨hn0, hn1⟩ g3) fun H1 h3 h4 => ?_
  exact ⟨H1, by rw [c_214, h3, g5], .inr ⟨rfl, h4⟩⟩
end
section
variable {w : World} {p : Program} {loose : List Str} {mean : ExcName → Option Value} {mg mb : Str → Option Value} {G0 : Heap} {lv : Nat}
theorem plain_ok {K : Kx} (hK : KOk w G0 lv K) : KOk w G0 lv (plainK K) := ⟨hK.call, hK.lam, hK.scr⟩
theorem plain2_ok (GD : Gd w p loose mean mg mb G0) {K : Kx} (hK : KOk w G0 lv K) : KOk w G0 (lv + 2) (plain2 w K) := ⟨fun nh f => callK_ok GD (TT_ok w) hK nh f (FT_ok w GD.C), fun st body hc => SE.mono (hK.lam st body hc) (by lia), hK.scr⟩
theorem orH_ok (GD : Gd w p loose mean mg mb G0) {K : Kx} (hK : KOk w G0 lv K) (o : Orc) (f : Addr) : SF w G0 (lv + 4) true (.ref f) (orH o f (callK w TT (plainK K) true f FT) (callK w TT (plain2 w K) true f FT) (callK w TT K true f FT)) := by
  have hF := FT_ok w GD.C
  have h1 : ∀ f, SF w G0 (lv + 4) true (.ref f) (callK w TT (plainK K) true f FT) := fun f => (callK_ok GD (TT_ok w) (plain_ok hK) true f hF).mono (by lia)
  have h2 : ∀ f, SF w G0 (lv + 4) true (.ref f) (callK w TT (plain2 w K) true f FT) := fun f => (callK_ok GD (TT_ok w) (plain2_ok GD hK) true f hF).mono (by lia)
  have h3 : ∀ f, SF w G0 (lv + 4) true (.ref f) (callK w TT K true f FT) := fun f => (callK_ok GD (TT_ok w) hK true f hF).mono (by lia)
  unfold orH
  split
  · rename_i e; subst e; exact SF_orc (h1 _) (take_s w o)
  · split
    · rename_i e; subst e; exact SF_orc (h1 _) (best_s w o)
    · split
      · rename_i e; subst e; exact SF_orc (h1 _) (bits_s w o)
      · split
        · rename_i e; subst e; exact SF_orc (h2 _) (pbest_s w o)
        · split
          · rename_i e; subst e; exact SF_orc (h1 _) (more_s w o)
          · exact h3 f
theorem KO_ok (GD : Gd w p loose mean mg mb G0) {scr : Addr × List Int} (hs : ScrOk G0 scr) (o : Orc) : ∀ n, KOk w G0 (4 * n) (KO w scr o n)
  | 0 => ⟨fun nh f ks A outer fs s φ H news R xs vs B hx hp => hp.elim, fun st body hc => E_stuck, hs⟩
  | n + 1 => have ih := KO_ok GD hs o n
    ⟨fun nh f => by
      cases nh with
      | true => exact orH_ok GD ih o f
      | false => exact (callK_ok GD (TT_ok w) ih false f (FT_ok w GD.C)).mono (by lia), fun st body hc => SE.mono ((tr_ok GD (TT_ok w) ih 40).E st ⟨st.scope, st.nh, false, none⟩ body ⟨rfl, rfl, hc, fun _ _ _ e => by cases e⟩) (by lia), hs⟩
end
end Mine
end
-- M76
section
open PySem PySem.W PyProof.Rows PySem.Calls PySem.Spec
set_option Elab.async false
set_option linter.all false
namespace Mine
set_option maxRecDepth 100000
-- the comprehensions foretold are so
theorem rfAt_eq {v : Option AV} {k : Nat} (h : rfAt v k = true) : v = some (.ref k) := by
  induction v with
  | none => cases h
  | some x => rw [rf2_eq h]
theorem cInt_eq {F : Frm} {H : Hp} {x : Nat} {k : Int} (h : cInt F H x = some k) : ∃ i, F.cl.lookup x = some i ∧ H.get i = some (.cell (some (.int k))) := by
  unfold cInt at h
  refine hide fun q9 b9 => ?_
  refine xe12 (Option.bind_eq_some_iff.mp h) fun i e1 h => ?_
  refine xe12 (Option.bind_eq_some_iff.mp h) fun o e2 h => ?_
  refine b9 ?_
  obtain ⟨u, rfl, h⟩ := Option.bind_eq_some_iff.mp h
  rw [int_eq h] at e2
  exact ⟨i, e1, Hp.cell_eq e2⟩
theorem cell_of {H : Hp} {i : Nat} {v : Option AV} (h : H.get i = some (.cell v)) : H.cell i = some v := by unfold Hp.cell; rw [h]; rfl
theorem getC_ok {F : Frm} {H : Hp} {x i : Nat} {v : AV} (h1 : F.cl.lookup x = some i) (h2 : H.get i = some (.cell (some v))) : getC x F H = .ok v H := by unfold getC; rw [h1]; dsimp only; rw [cell_of h2]
section
variable (w : World)
theorem cs623 (cl : List (Nat × Nat)) : closD cl (cmpS w 623 0).names [] = match cl.lookup 107 with | some i => some [(107, i)] | none => none := by kernel_rfl
theorem cs635 (cl : List (Nat × Nat)) : closD cl (cmpS w 635 0).names [] = match cl.lookup 107 with | some i => some [(107, i)] | none => none := by kernel_rfl
theorem cs654 (cl : List (Nat × Nat)) : closD cl (cmpS w 654 0).names [] = match cl.lookup 65 with | some i => some [(65, i)] | none => none := by kernel_rfl
theorem cs618 (cl : List (Nat × Nat)) : closD cl (cmpS w 618 0).names [] = match cl.lookup 103 with | some i => some [(103, i)] | none => none := by kernel_rfl
end
noncomputable def pI (q : Int → Bool) : AV → Bool
  | .int x => q x
  | _ => false
theorem filter_ints {q : Int → Bool} (l : List Int) : ((l.map AV.int).filter (pI q)).map (fun v => v) = (l.filter q).map AV.int := by
  rw [List.map_id', List.filter_map]; rfl
theorem cg_fil {sc : Scope} {key : Nat} {l : List Int} {k : Int} (hsc : ∀ cl : List (Nat × Nat), closD cl sc.names [] = match cl.lookup 107 with | some i => some [(107, i)] | none => none) (hl : l.length < 100) :
    CG (eComp 59 sc (eItem (getV 65) (eK (.str key))) (bCmp (cmpD TT .NotEq) (getV 59) (getC 107)) (getV 59)) (hFil key 107 ((l.filter fun x => (x == k) == false).map .int)) (l.map .int, [], k, 0) := ⟨fun F H fr hp => by
  unfold hFil at hp ⊢
  dsimp only at hp ⊢
  split at hp
  · rename_i h65
    refine hide fun q9 b9 => ?_
    refine xe12 (Option.bind_eq_some_iff.mp hp) fun d e1 hp => ?_
    refine xe12 (Option.bind_eq_some_iff.mp hp) fun vs e2 hp => ?_
    refine xe12 (Option.map_eq_some_iff.mp hp) fun k' e3 hp => ?_
    refine b9 ?_
    obtain ⟨rfl, rfl⟩ : vs = l.map .int ∧ k' = k := by
      have := Prod.mk.inj hp
      exact ⟨this.1, (Prod.mk.inj (Prod.mk.inj this.2).2).1⟩
    refine hide fun q9 b9 => ?_
    refine xe12 (lstAt_some e2) fun iu f1 f2 => ?_
    refine xe12 (cInt_eq e3) fun i g1 g2 => ?_
    refine b9 ?_
    have hD : eItem (getV 65) (eK (.str key)) F H = .ok (.ref iu) H := eItem_pd (getV_ok (rfAt_eq h65)) e1 f1
    rw [eComp_lst (by rw [hsc, g1]) hD fr (list_get f2) (p := pI fun x => (x == k') == false) (g := fun v => v) (fun v hv H' s => ?_) (fun v hv H' s => rfl) (by rw [List.length_map]; exact hl), filter_ints]
    obtain ⟨x, _, rfl⟩ := List.mem_map.mp hv
    exact bCmp_ok rfl (getC_ok rfl (s _ _ g2)) rfl
  · cases hp⟩
theorem cg_sub {w : World} {l us : List Int} (hl : l.length < 100) : CG (dAl w) (hSub ((l.filter fun x => mem us x == false).map .int)) (l.map .int, us.map .int, 0, 0) := ⟨fun F H fr hp => by
  unfold hSub at hp ⊢
  dsimp only at hp ⊢
  split at hp
  · rename_i h65
    refine hide fun q9 b9 => ?_
    refine xe12 (Option.bind_eq_some_iff.mp hp) fun d e1 hp => ?_
    refine xe12 (Option.bind_eq_some_iff.mp hp) fun vs e2 hp => ?_
    refine xe12 (Option.map_eq_some_iff.mp hp) fun us' e3 hp => ?_
    refine b9 ?_
    obtain ⟨rfl, rfl⟩ : vs = l.map .int ∧ us' = us.map .int := by
      have := Prod.mk.inj hp
      exact ⟨this.1, (Prod.mk.inj this.2).1⟩
    refine hide fun q9 b9 => ?_
    refine xe12 (Option.bind_eq_some_iff.mp (eq_of_beq h65)) fun i g1 h65 => ?_
    refine xe12 (Option.map_eq_some_iff.mp h65) fun o g2 h65 => ?_
    refine b9 ?_
    rw [rfAt_eq h65] at g2
    have g2 := Hp.cell_eq g2
    refine hide fun q9 b9 => ?_
    refine xe12 (lstAt_some e2) fun iu f1 f2 => ?_
    refine xe12 (lstAt_some e3) fun is f3 f4 => ?_
    refine b9 ?_
    have hD : eItem (getC 65) (eK (.str 102)) F H = .ok (.ref iu) H := eItem_pd (getC_ok g1 g2) e1 f1
    unfold dAl
    rw [eComp_lst (by rw [cs654, g1]) hD fr (list_get f2) (p := pI fun x => mem us x == false) (g := fun v => v) (fun v hv H' s => ?_) (fun v hv H' s => rfl) (by rw [List.length_map]; exact hl), filter_ints]
    obtain ⟨x, _, rfl⟩ := List.mem_map.mp hv
    refine bCmp_ok rfl (eItem_pd (getC_ok rfl (s _ _ g2)) (pd_of (s _ _ (Hp.pd_eq e1))) f3) ?_
    show alt2 (opIn false) _ (.int x) (.ref is) H' = _
    unfold alt2
    rw [opIn_ok (list_of (s _ _ (list_get f4)))]; rfl
  · cases hp⟩
-- over a range
noncomputable def HY (Hb : Hp) (acc : List AV) (x m : Int) : Hp := ⟨(Hb.next + 1, .list acc) :: (Hb.next, .riter x m) :: Hb.cells, Hb.next + 2⟩
theorem HY_i {Hb : Hp} {x m : Int} {acc : List AV} : (HY Hb acc x m).get Hb.next = some (.riter x m) := by
  show getO _ (_ :: _) = _
  rw [getO_cons, show (Hb.next == Hb.next + 1) = false from by simp, getO_cons, beq_self_eq_true]
theorem HY_j {Hb : Hp} {x m : Int} {acc : List AV} : (HY Hb acc x m).get (Hb.next + 1) = some (.list acc) := by
  show getO _ (_ :: _) = _
  rw [getO_cons, beq_self_eq_true]
theorem HY_old {Hb : Hp} {x m : Int} {acc : List AV} (fr : Frsh Hb) : Same Hb (HY Hb acc x m) := fun i a h => by
  have := fr i a h
  show getO _ (_ :: _) = _
  rw [getO_cons, show (i == Hb.next + 1) = false from by simp; lia, getO_cons, show (i == Hb.next) = false from by simp; lia]
  exact h
theorem HY_seti {Hb : Hp} {x m x' m' : Int} {acc : List AV} : (HY Hb acc x m).set Hb.next (.riter x' m') = HY Hb acc x' m' := by
  show Hp.mk (setL _ _ (_ :: _)) _ = _
  rw [setL_cons, if_neg (by show ¬(Hb.next + 1 = Hb.next); lia), setL_cons, if_pos rfl]; rfl
theorem HY_setj {Hb : Hp} {x m : Int} {acc acc' : List AV} : (HY Hb acc x m).set (Hb.next + 1) (.list acc') = HY Hb acc' x m := by
  show Hp.mk (setL _ _ (_ :: _)) _ = _
  rw [setL_cons, if_pos rfl]; rfl
theorem HY_del {Hb : Hp} {x m : Int} {acc : List AV} (fr : Frsh Hb) : (HY Hb acc x m).del Hb.next = ⟨(Hb.next + 1, .list acc) :: Hb.cells, Hb.next + 2⟩ := by
  show Hp.mk (delL _ (_ :: _)) _ = _
  rw [delL_cons, if_neg (by show ¬(Hb.next + 1 = Hb.next); lia), delL_cons, if_pos rfl, del_out fun p hp e => by
    refine xe1 (get_mem hp) fun a h => ?_
    have := fr p.1 a h; lia]; rfl
theorem comp_rng {c : Nat} {T : TX} {Hb : Hp} (fr : Frsh Hb) {cl : List (Nat × Nat)} {p : Int → Bool} {top : Int} (hT : ∀ x, 0 ≤ x → x < top → ∀ H', Same Hb H' → T ⟨[(c, .int x)], cl⟩ H' = .ok (p x) H') :
    ∀ (m : Nat) (x : Int) (acc : List AV) (fuel : Nat) (loc : List (Nat × AV)), 0 ≤ x → x + m ≤ top → m < fuel → acc.length + m ≤ 1000 → (loc = [] ∨ ∃ u, loc = [(c, u)]) →
    compLoop c T (getV c) Hb.next (Hb.next + 1) fuel ⟨loc, cl⟩ (HY Hb acc x (m : Int)) = .ok () ⟨(Hb.next + 1, .list (acc ++ ((wiresF m x).filter p).map .int)) :: Hb.cells, Hb.next + 2⟩
  | 0, x, acc, fuel + 1, loc, _, _, _, _, _ => by
    have nd := nextD_end (H := HY Hb acc x ((0 : Nat) : Int)) (I := Hb.next) (x := x) HY_i
    unfold compLoop; rw [nd]
    show Res.ok () _ = _
    rw [HY_del fr]
    show _ = Res.ok () ⟨(Hb.next + 1, .list (acc ++ [])) :: Hb.cells, Hb.next + 2⟩
    rw [List.append_nil]
  | m + 1, x, acc, fuel + 1, loc, h0, h1, h2, h3, hloc => by
    have nd := nextD_item (H := HY Hb acc x ((m + 1 : Nat) : Int)) (I := Hb.next) (x := x) (m := m) HY_i
    rw [HY_seti] at nd
    unfold compLoop; rw [nd]; dsimp only
    rw [putS_one hloc, hT x h0 (by lia) _ (HY_old fr)]
    have e : wiresF (m + 1) x = x :: wiresF m (x + 1) := rfl
    rw [e]
    induction hp : p x with
    | true =>
      dsimp only
      rw [show getV c ⟨[(c, .int x)], cl⟩ (HY Hb acc (x + 1) (m : Int)) = .ok (.int x) (HY Hb acc (x + 1) (m : Int)) from getV_ok (by rw [List.lookup_cons, beq_self_eq_true])]; dsimp only
      have ap : appD (.ref (Hb.next + 1)) (.int x) (HY Hb acc (x + 1) (m : Int)) = .ok .none (HY Hb (acc ++ [.int x]) (x + 1) (m : Int)) := by
        unfold appD; dsimp only; rw [list_of HY_j]; dsimp only
        rw [if_pos (by lia), HY_setj]
      rw [ap]; dsimp only
      rw [comp_rng fr hT m (x + 1) (acc ++ [AV.int x]) fuel [(c, AV.int x)] (by lia) (by lia) (by lia) (by rw [List.length_append]; simp; lia) (.inr ⟨AV.int x, rfl⟩)]
      rw [List.filter_cons, if_pos hp, List.map_cons, List.append_assoc]; rfl
    | false =>
      dsimp only
      rw [comp_rng fr hT m (x + 1) acc fuel [(c, AV.int x)] (by lia) (by lia) (by lia) (by lia) (.inr ⟨AV.int x, rfl⟩)]
      rw [List.filter_cons, if_neg (by rw [hp]; decide)]
theorem pow_lt64 {t : Nat} (h : t < 64) : (2 : Int) ^ t < 2 ^ 64 := by
  have h2 : 2 ^ t < 2 ^ 64 := Nat.pow_lt_pow_right (by decide) h
  have e : ∀ k : Nat, ((2 ^ k : Nat) : Int) = (2 : Int) ^ k := fun k => by rw [Int.natCast_pow]; rfl
  rw [← e t, ← e 64]
  exact Int.ofNat_lt.mpr h2
theorem cg_let {w : World} {n v : Int} (hn : 0 ≤ n ∧ n ≤ 31) : CG (dLet w) (hLet n (((wires n).filter fun x => (v / 2 ^ x.toNat % 2 == 1) == true).map .int)) ([], [], v, n) := ⟨fun F H fr hp => by
  unfold hLet at hp ⊢
  dsimp only at hp ⊢
  split at hp
  · rename_i h65
    refine hide fun q9 b9 => ?_
    refine xe12 (Option.bind_eq_some_iff.mp hp) fun d e1 hp => ?_
    refine xe12 (Option.bind_eq_some_iff.mp hp) fun n' e2 hp => ?_
    refine xe12 (Option.map_eq_some_iff.mp hp) fun v' e3 hp => ?_
    refine b9 ?_
    obtain ⟨rfl, rfl⟩ : v' = v ∧ n' = n := by
      have := (Prod.mk.inj (Prod.mk.inj hp).2).2
      exact Prod.mk.inj this
    refine hide fun q9 b9 => ?_
    refine xe12 (Option.bind_eq_some_iff.mp e2) fun u e4 e5 => ?_
    refine b9 ?_
    obtain rfl := int_eq e5
    refine hide fun q9 b9 => ?_
    refine xe12 (cInt_eq e3) fun i g1 g2 => ?_
    obtain ⟨m, hm⟩ : ∃ m : Nat, n' = (m : Int) := ⟨n'.toNat, by lia⟩
    refine b9 ?_
    have fr1 : Frsh (H.push (.range 1 (n' + 1))) := Frsh.push (H := H) fr
    have hD : eCall (aC (eK (.int 1)) (aC (eBin (binD .Add) (eItem (getV 65) (eK (.str 89))) (eK (.int 1))) (aN))) fRange F H = .ok (.ref H.next) (H.push (.range 1 (n' + 1))) :=
      eCall_ok (aC_ok rfl (aC_ok (eBin_ok (eItem_pd (getV_ok (rfAt_eq h65)) e1 e4) rfl rfl) aN_ok)) rfl
    have hIt : iterD (.ref H.next) (H.push (.range 1 (n' + 1))) = .ok (.ref (H.next + 1)) ((H.push (.range 1 (n' + 1))).push (.riter 1 (m : Int))) := by
      have hr : (H.push (.range 1 (n' + 1))).range H.next = some (1, n' + 1) := by
        unfold Hp.range; rw [show (H.push (.range 1 (n' + 1))).get H.next = some (.range 1 (n' + 1)) from push_new]; rfl
      unfold iterD; dsimp only; rw [hr]; dsimp only
      rw [if_pos ⟨⟨by decide, by decide⟩, by lia, by lia⟩]
      rw [show (if (1 : Int) < n' + 1 then n' + 1 - 1 else 0) = (m : Int) from by split <;> lia]; rfl
    unfold dLet eComp
    rw [show closD F.cl (cmpS w 618 0).names [] = some [(103, i)] from by rw [cs618, g1]]
    dsimp only
    rw [hD]
    show (iterD (.ref H.next) (H.push (.range 1 (n' + 1)))).bind _ = _
    rw [hIt]
    show toAV (compLoop 107 _ (getV 107) (H.push (.range 1 (n' + 1))).next ((H.push (.range 1 (n' + 1))).next + 1) 100 ⟨[], [(103, i)]⟩ (HY (H.push (.range 1 (n' + 1))) [] 1 (m : Int))) (.ref (H.next + 2)) = _
    rw [comp_rng (top := 32) fr1 (p := fun x => (v' / 2 ^ x.toNat % 2 == 1) == true) (fun x hx0 hx1 H' s => ?_) m 1 [] 100 [] (by decide) (by lia) (by lia) (by show 0 + m ≤ 1000; lia) (.inl rfl)]
    · rw [show wires n' = wiresF m 1 from by unfold wires; rw [hm]; rfl]; rfl
    · have hgv : getC 103 ⟨[(107, .int x)], [(103, i)]⟩ H' = .ok (.int v') H' := getC_ok rfl (s _ _ (push_old fr g2))
      have hpw : eBin (binD .Pow) (eK (.int 2)) (getV 107) ⟨[(107, .int x)], [(103, i)]⟩ H' = .ok (.int (2 ^ x.toNat)) H' := by
        refine eBin_ok rfl rfl ?_
        show (match fPow 2 x with | some v => Res.ok v H' | none => .stuck) = _
        unfold fPow; rw [if_pos ⟨hx0, by lia, by decide⟩]
      have hdv : eBin (binD .FloorDiv) (getC 103) (eBin (binD .Pow) (eK (.int 2)) (getV 107)) ⟨[(107, .int x)], [(103, i)]⟩ H' = .ok (.int (v' / 2 ^ x.toNat)) H' := by
        refine eBin_ok hgv hpw ?_
        show (match fDiv v' (2 ^ x.toNat) with | some v => Res.ok v H' | none => .stuck) = _
        unfold fDiv; rw [if_pos ⟨Int.pow_pos (by decide), pow_lt64 (by lia)⟩]
      exact bCmp_ok (eBin_ok hdv rfl rfl) rfl rfl
  · cases hp⟩
end Mine
end
-- M77
section
open PySem PySem.W PyProof.Rows PySem.Calls PySem.Spec
set_option Elab.async false
set_option linter.all false
namespace Mine
set_option maxRecDepth 100000
theorem getO_front {g : List (Nat × AO)} (hg : ∀ p ∈ g, 42 ≤ p.1) {i : Nat} (hi : i < 42) {l : List (Nat × AO)} : getO i (g ++ l) = getO i l := by
  induction g with
  | nil => rfl
  | cons p g ih =>
    have := hg p (.head _)
    rw [List.cons_append, show p :: (g ++ l) = (p.1, p.2) :: (g ++ l) from rfl, getO_cons, show (i == p.1) = false from by simp; lia]
    exact ih fun q hq => hg q (.tail _ hq)
/-- the heap's lists of ints -/
noncomputable def AInts (l : List AV) : Prop := ∃ k : List Int, l = k.map .int
theorem AInts.ren {l : List AV} (h : AInts l) {ρ : Nat → Nat} : l.map (renV ρ) = l := by
  obtain ⟨k, rfl⟩ := h
  rw [List.map_map]; rfl
theorem AInts.lt {l : List AV} (h : AInts l) {n : Nat} : ∀ v ∈ l, vlt n v := by
  obtain ⟨k, rfl⟩ := h
  intro v hv
  obtain ⟨x, _, rfl⟩ := List.mem_map.mp hv
  exact trivial
theorem AInts.of (l : List Int) : AInts (l.map .int) := ⟨l, rfl⟩
theorem vlt_nil {n : Nat} : ∀ v ∈ ([] : List AV), vlt n v := fun _ h => nomatch h
theorem vlt_cons {n : Nat} {x : AV} {l : List AV} (h : vlt n x) (k : ∀ v ∈ l, vlt n v) : ∀ v ∈ x :: l, vlt n v := fun v hv => by
  rcases List.mem_cons.mp hv with rfl | hv
  · exact h
  · exact k v hv
theorem qlt_nil {α : Type} {n : Nat} : ∀ q ∈ ([] : List (α × AV)), vlt n q.2 := fun _ h => nomatch h
theorem qlt_cons {α : Type} {n : Nat} {x : α × AV} {l : List (α × AV)} (h : vlt n x.2) (k : ∀ q ∈ l, vlt n q.2) : ∀ q ∈ x :: l, vlt n q.2 := fun v hv => by
  rcases List.mem_cons.mp hv with rfl | hv
  · exact h
  · exact k v hv
theorem fa_nil {P : Nat × AO → Prop} : ∀ p ∈ ([] : List (Nat × AO)), P p := fun _ h => nomatch h
theorem fa_cons {P : Nat × AO → Prop} {x : Nat × AO} {l : List (Nat × AO)} (h : P x) (k : ∀ p ∈ l, P p) : ∀ p ∈ x :: l, P p := fun v hv => by
  rcases List.mem_cons.mp hv with rfl | hv
  · exact h
  · exact k v hv
noncomputable def rho (t a : Nat) : Nat → Nat := fun i => if i = t then a else i
theorem down_id {cs g : List (Nat × AO)} {k : Nat} (hg : ∀ p ∈ g, 42 ≤ p.1) (nd : (cs.map (·.1)).Nodup) (lt : ∀ p ∈ cs, p.1 < 42) (ol : ∀ p ∈ cs, olt 42 p.2) : Down (fun i => i) ⟨cs, 42⟩ ⟨g ++ cs, k⟩ :=
  ⟨fun p hp => by rw [renO_id]; exact (getO_front hg (lt p hp)).trans (lookup_nd nd hp), ol, lt, fun _ _ _ _ e => e, nd⟩
theorem down_t {cs cx g : List (Nat × AO)} {k t a sp : Nat} (hg : ∀ p ∈ g, 42 ≤ p.1) (nd : (cs.map (·.1)).Nodup) (lt : ∀ p ∈ cs, p.1 < 42) (ol : ∀ p ∈ cs, olt 42 p.2) (ht : t < 42) (ha : 42 ≤ a) (hst : sp ≠ t)
    (hx : ∀ i, i ≠ t → i ≠ sp → getO i cx = getO i cs) (hs : ∀ o, getO sp cs = some o → getO sp cx = some (renO (rho t a) o)) (hn : ∀ p ∈ cs, p.1 ≠ sp → renO (rho t a) p.2 = p.2) (hc : ∀ o, getO t cs = some o → getO a (g ++ cx) = some o) : Down (rho t a) ⟨cs, 42⟩ ⟨g ++ cx, k⟩ :=
  ⟨fun p hp => by
    have e := lookup_nd nd hp
    show getO (rho t a p.1) (g ++ cx) = _
    by_cases h1 : p.1 = t
    · rw [show rho t a p.1 = a from if_pos h1, hn p hp (fun q => hst (q.symm.trans h1))]
      exact hc _ (h1 ▸ e)
    · rw [show rho t a p.1 = p.1 from if_neg h1, getO_front hg (lt p hp)]
      by_cases h2 : p.1 = sp
      · rw [h2]; exact hs _ (h2 ▸ e)
      · rw [hn p hp h2, hx _ h1 h2]; exact e, ol, lt, fun p hp q hq e => by
    have h1 := lt p hp
    have h2 := lt q hq
    unfold rho at e
    split at e <;> split at e <;> lia, nd⟩
section
variable {n m j : Int} {S : LS} {x y : Cx}
/-- the lists of the state are ints -/
structure LI (S : LS) : Prop where
  items : AInts S.items
  up : AInts S.up
  served : AInts S.served

theorem olt_1 (I : LI S) (hx : AInts x.lt) : ∀ p ∈ (hp n 1 (S1 S x) m j).cells, olt 42 p.2 := fa_cons ((show (_ : Nat) < 42 from by decide)) (fa_cons ((show (_ : Nat) < 42 from by decide)) (fa_cons ((show (_ : Nat) < 42 from by decide)) (fa_cons ((show (_ : Nat) < 42 from by decide)) (fa_cons ((fun u hu => by obtain rfl := Option.some.inj hu; exact trivial)) (fa_cons ((fun u hu => by obtain rfl := Option.some.inj hu; exact (by decide : (22 : Nat) < 42))) (fa_cons ((fun u hu => by obtain rfl := Option.some.inj hu; exact trivial)) (fa_cons ((fun u hu => by obtain rfl := Option.some.inj hu; exact (by decide : (20 : Nat) < 42))) (fa_cons (I.items.lt) (fa_cons ((vlt_cons (show (_ : Nat) < 42 from by decide) (vlt_cons trivial vlt_nil))) (fa_cons ((qlt_cons trivial (qlt_cons trivial (qlt_cons trivial (qlt_cons trivial (qlt_cons (show (_ : Nat) < 42 from by decide) (qlt_cons (show (12 : Nat) < 42 from by decide) (qlt_cons (show (13 : Nat) < 42 from by decide) (qlt_cons (show (_ : Nat) < 42 from by decide) (qlt_cons (show (_ : Nat) < 42 from by decide) qlt_nil)))))))))) (fa_cons ((AInts.of _).lt) (fa_cons (I.up.lt) (fa_cons (I.served.lt) (fa_cons ((vlt_cons (show (_ : Nat) < 42 from by decide) vlt_nil)) (fa_cons ((AInts.of _).lt) (fa_cons ((qlt_cons trivial (qlt_cons trivial (qlt_cons trivial (qlt_cons (show (_ : Nat) < 42 from by decide) qlt_nil))))) (fa_cons ((show (_ : Nat) < 42 from by decide)) (fa_cons (⟨(show (_ : Nat) < 42 from by decide), (qlt_cons trivial qlt_nil)⟩) (fa_cons ((qlt_cons trivial (qlt_cons trivial (qlt_cons trivial qlt_nil)))) (fa_cons ((show (_ : Nat) < 42 from by decide)) (fa_cons ((qlt_cons trivial (qlt_cons trivial (qlt_cons (show (_ : Nat) < 42 from by decide) (qlt_cons trivial (qlt_cons trivial (qlt_cons (show (_ : Nat) < 42 from by decide) (qlt_cons (show (_ : Nat) < 42 from by decide) qlt_nil)))))))) (fa_cons ((show (_ : Nat) < 42 from by decide)) (fa_cons ((AInts.of _).lt) (fa_cons ((AInts.of _).lt) (fa_cons ((AInts.of _).lt) (fa_cons ((qlt_cons (show (_ : Nat) < 42 from by decide) (qlt_cons (show (_ : Nat) < 42 from by decide) qlt_nil))) (fa_cons ((show (_ : Nat) < 42 from by decide)) (fa_cons ((vlt_cons (show (_ : Nat) < 42 from by decide) (vlt_cons (show (_ : Nat) < 42 from by decide) vlt_nil))) (fa_cons ((qlt_cons trivial (qlt_cons trivial (qlt_cons (show (_ : Nat) < 42 from by decide) qlt_nil)))) (fa_cons ((show (_ : Nat) < 42 from by decide)) (fa_cons ((qlt_cons trivial (qlt_cons trivial (qlt_cons (show (_ : Nat) < 42 from by decide) qlt_nil)))) (fa_cons ((show (_ : Nat) < 42 from by decide)) (fa_cons (hx.lt) (fa_cons (trivial) (fa_cons (trivial) (fa_nil))))))))))))))))))))))))))))))))))))
theorem ids_1 : (hp n 1 (S1 S x) m j).cells.map (·.1) = [0, 1, 2, 3, 4, 5, 6, 7, 8, 9, 10, 11, 12, 13, 14, 15, 16, 17, 18, 19, 20, 21, 22, 23, 24, 25, 26, 27, 28, 29, 30, 31, 32, 33, 40, 41] := by kernel_rfl
theorem nd_1 : ((hp n 1 (S1 S x) m j).cells.map (·.1)).Nodup := by rw [ids_1]; decide
theorem lt_1 : ∀ p ∈ (hp n 1 (S1 S x) m j).cells, p.1 < 42 := fun p hp => by
  have h := List.mem_map_of_mem (f := (·.1)) hp
  rw [ids_1] at h
  have : ∀ i ∈ ([0, 1, 2, 3, 4, 5, 6, 7, 8, 9, 10, 11, 12, 13, 14, 15, 16, 17, 18, 19, 20, 21, 22, 23, 24, 25, 26, 27, 28, 29, 30, 31, 32, 33, 40, 41] : List Nat), i < 42 := by decide
  exact this _ h
theorem ren_1_12 (I : LI S) (hx : AInts x.lt) {a : Nat} : ∀ p ∈ (hp n 1 (S1 S x) m j).cells, p.1 ≠ 10 → renO (rho 12 a) p.2 = p.2 := fa_cons (fun _ => rfl) (fa_cons (fun _ => rfl) (fa_cons (fun _ => rfl) (fa_cons (fun _ => rfl) (fa_cons (fun _ => rfl) (fa_cons (fun _ => rfl) (fa_cons (fun _ => rfl) (fa_cons (fun _ => rfl) (fa_cons (fun _ => congrArg AO.list (I.items.ren)) (fa_cons (fun _ => rfl) (fa_cons (fun h => absurd rfl h) (fa_cons (fun _ => congrArg AO.list ((AInts.of _).ren)) (fa_cons (fun _ => congrArg AO.list (I.up.ren)) (fa_cons (fun _ => congrArg AO.list (I.served.ren)) (fa_cons (fun _ => rfl) (fa_cons (fun _ => congrArg AO.list ((AInts.of _).ren)) (fa_cons (fun _ => rfl) (fa_cons (fun _ => rfl) (fa_cons (fun _ => rfl) (fa_cons (fun _ => rfl) (fa_cons (fun _ => rfl) (fa_cons (fun _ => rfl) (fa_cons (fun _ => rfl) (fa_cons (fun _ => congrArg AO.list ((AInts.of _).ren)) (fa_cons (fun _ => congrArg AO.list ((AInts.of _).ren)) (fa_cons (fun _ => congrArg AO.list ((AInts.of _).ren)) (fa_cons (fun _ => rfl) (fa_cons (fun _ => rfl) (fa_cons (fun _ => rfl) (fa_cons (fun _ => rfl) (fa_cons (fun _ => rfl) (fa_cons (fun _ => rfl) (fa_cons (fun _ => rfl) (fa_cons (fun _ => congrArg AO.list (hx.ren)) (fa_cons (fun _ => rfl) (fa_cons (fun _ => rfl) (fa_nil))))))))))))))))))))))))))))))))))))
theorem ren_1_13 (I : LI S) (hx : AInts x.lt) {a : Nat} : ∀ p ∈ (hp n 1 (S1 S x) m j).cells, p.1 ≠ 10 → renO (rho 13 a) p.2 = p.2 := fa_cons (fun _ => rfl) (fa_cons (fun _ => rfl) (fa_cons (fun _ => rfl) (fa_cons (fun _ => rfl) (fa_cons (fun _ => rfl) (fa_cons (fun _ => rfl) (fa_cons (fun _ => rfl) (fa_cons (fun _ => rfl) (fa_cons (fun _ => congrArg AO.list (I.items.ren)) (fa_cons (fun _ => rfl) (fa_cons (fun h => absurd rfl h) (fa_cons (fun _ => congrArg AO.list ((AInts.of _).ren)) (fa_cons (fun _ => congrArg AO.list (I.up.ren)) (fa_cons (fun _ => congrArg AO.list (I.served.ren)) (fa_cons (fun _ => rfl) (fa_cons (fun _ => congrArg AO.list ((AInts.of _).ren)) (fa_cons (fun _ => rfl) (fa_cons (fun _ => rfl) (fa_cons (fun _ => rfl) (fa_cons (fun _ => rfl) (fa_cons (fun _ => rfl) (fa_cons (fun _ => rfl) (fa_cons (fun _ => rfl) (fa_cons (fun _ => congrArg AO.list ((AInts.of _).ren)) (fa_cons (fun _ => congrArg AO.list ((AInts.of _).ren)) (fa_cons (fun _ => congrArg AO.list ((AInts.of _).ren)) (fa_cons (fun _ => rfl) (fa_cons (fun _ => rfl) (fa_cons (fun _ => rfl) (fa_cons (fun _ => rfl) (fa_cons (fun _ => rfl) (fa_cons (fun _ => rfl) (fa_cons (fun _ => rfl) (fa_cons (fun _ => congrArg AO.list (hx.ren)) (fa_cons (fun _ => rfl) (fa_cons (fun _ => rfl) (fa_nil))))))))))))))))))))))))))))))))))))
theorem ren_1_33 (I : LI S) (hx : AInts x.lt) {a : Nat} : ∀ p ∈ (hp n 1 (S1 S x) m j).cells, p.1 ≠ 14 → renO (rho 33 a) p.2 = p.2 := fa_cons (fun _ => rfl) (fa_cons (fun _ => rfl) (fa_cons (fun _ => rfl) (fa_cons (fun _ => rfl) (fa_cons (fun _ => rfl) (fa_cons (fun _ => rfl) (fa_cons (fun _ => rfl) (fa_cons (fun _ => rfl) (fa_cons (fun _ => congrArg AO.list (I.items.ren)) (fa_cons (fun _ => rfl) (fa_cons (fun _ => rfl) (fa_cons (fun _ => congrArg AO.list ((AInts.of _).ren)) (fa_cons (fun _ => congrArg AO.list (I.up.ren)) (fa_cons (fun _ => congrArg AO.list (I.served.ren)) (fa_cons (fun h => absurd rfl h) (fa_cons (fun _ => congrArg AO.list ((AInts.of _).ren)) (fa_cons (fun _ => rfl) (fa_cons (fun _ => rfl) (fa_cons (fun _ => rfl) (fa_cons (fun _ => rfl) (fa_cons (fun _ => rfl) (fa_cons (fun _ => rfl) (fa_cons (fun _ => rfl) (fa_cons (fun _ => congrArg AO.list ((AInts.of _).ren)) (fa_cons (fun _ => congrArg AO.list ((AInts.of _).ren)) (fa_cons (fun _ => congrArg AO.list ((AInts.of _).ren)) (fa_cons (fun _ => rfl) (fa_cons (fun _ => rfl) (fa_cons (fun _ => rfl) (fa_cons (fun _ => rfl) (fa_cons (fun _ => rfl) (fa_cons (fun _ => rfl) (fa_cons (fun _ => rfl) (fa_cons (fun _ => congrArg AO.list (hx.ren)) (fa_cons (fun _ => rfl) (fa_cons (fun _ => rfl) (fa_nil))))))))))))))))))))))))))))))))))))
theorem olt_2 (I : LI S) (hx : AInts x.lt) (hy : AInts y.lt) : ∀ p ∈ (hp n 2 (S2 S x y) m j).cells, olt 42 p.2 := fa_cons ((show (_ : Nat) < 42 from by decide)) (fa_cons ((show (_ : Nat) < 42 from by decide)) (fa_cons ((show (_ : Nat) < 42 from by decide)) (fa_cons ((show (_ : Nat) < 42 from by decide)) (fa_cons ((fun u hu => by obtain rfl := Option.some.inj hu; exact trivial)) (fa_cons ((fun u hu => by obtain rfl := Option.some.inj hu; exact (by decide : (22 : Nat) < 42))) (fa_cons ((fun u hu => by obtain rfl := Option.some.inj hu; exact trivial)) (fa_cons ((fun u hu => by obtain rfl := Option.some.inj hu; exact (by decide : (20 : Nat) < 42))) (fa_cons (I.items.lt) (fa_cons ((vlt_cons (show (_ : Nat) < 42 from by decide) (vlt_cons trivial vlt_nil))) (fa_cons ((qlt_cons trivial (qlt_cons trivial (qlt_cons trivial (qlt_cons trivial (qlt_cons (show (_ : Nat) < 42 from by decide) (qlt_cons (show (12 : Nat) < 42 from by decide) (qlt_cons (show (13 : Nat) < 42 from by decide) (qlt_cons (show (_ : Nat) < 42 from by decide) (qlt_cons (show (_ : Nat) < 42 from by decide) qlt_nil)))))))))) (fa_cons ((AInts.of _).lt) (fa_cons (I.up.lt) (fa_cons (I.served.lt) (fa_cons ((vlt_cons (show (_ : Nat) < 42 from by decide) (vlt_cons (show (_ : Nat) < 42 from by decide) vlt_nil))) (fa_cons ((AInts.of _).lt) (fa_cons ((qlt_cons trivial (qlt_cons trivial (qlt_cons trivial (qlt_cons (show (_ : Nat) < 42 from by decide) qlt_nil))))) (fa_cons ((show (_ : Nat) < 42 from by decide)) (fa_cons (⟨(show (_ : Nat) < 42 from by decide), (qlt_cons trivial qlt_nil)⟩) (fa_cons ((qlt_cons trivial (qlt_cons trivial (qlt_cons trivial qlt_nil)))) (fa_cons ((show (_ : Nat) < 42 from by decide)) (fa_cons ((qlt_cons trivial (qlt_cons trivial (qlt_cons (show (_ : Nat) < 42 from by decide) (qlt_cons trivial (qlt_cons trivial (qlt_cons (show (_ : Nat) < 42 from by decide) (qlt_cons (show (_ : Nat) < 42 from by decide) qlt_nil)))))))) (fa_cons ((show (_ : Nat) < 42 from by decide)) (fa_cons ((AInts.of _).lt) (fa_cons ((AInts.of _).lt) (fa_cons ((AInts.of _).lt) (fa_cons ((qlt_cons (show (_ : Nat) < 42 from by decide) (qlt_cons (show (_ : Nat) < 42 from by decide) qlt_nil))) (fa_cons ((show (_ : Nat) < 42 from by decide)) (fa_cons ((vlt_cons (show (_ : Nat) < 42 from by decide) (vlt_cons (show (_ : Nat) < 42 from by decide) vlt_nil))) (fa_cons ((qlt_cons trivial (qlt_cons trivial (qlt_cons (show (_ : Nat) < 42 from by decide) qlt_nil)))) (fa_cons ((show (_ : Nat) < 42 from by decide)) (fa_cons ((qlt_cons trivial (qlt_cons trivial (qlt_cons (show (_ : Nat) < 42 from by decide) qlt_nil)))) (fa_cons ((show (_ : Nat) < 42 from by decide)) (fa_cons (hx.lt) (fa_cons (hy.lt) (fa_cons (trivial) (fa_cons (trivial) (fa_nil)))))))))))))))))))))))))))))))))))))
theorem ids_2 : (hp n 2 (S2 S x y) m j).cells.map (·.1) = [0, 1, 2, 3, 4, 5, 6, 7, 8, 9, 10, 11, 12, 13, 14, 15, 16, 17, 18, 19, 20, 21, 22, 23, 24, 25, 26, 27, 28, 29, 30, 31, 32, 33, 34, 40, 41] := by kernel_rfl
theorem nd_2 : ((hp n 2 (S2 S x y) m j).cells.map (·.1)).Nodup := by rw [ids_2]; decide
theorem lt_2 : ∀ p ∈ (hp n 2 (S2 S x y) m j).cells, p.1 < 42 := fun p hp => by
  have h := List.mem_map_of_mem (f := (·.1)) hp
  rw [ids_2] at h
  have : ∀ i ∈ ([0, 1, 2, 3, 4, 5, 6, 7, 8, 9, 10, 11, 12, 13, 14, 15, 16, 17, 18, 19, 20, 21, 22, 23, 24, 25, 26, 27, 28, 29, 30, 31, 32, 33, 34, 40, 41] : List Nat), i < 42 := by decide
  exact this _ h
theorem ren_2_12 (I : LI S) (hx : AInts x.lt) (hy : AInts y.lt) {a : Nat} : ∀ p ∈ (hp n 2 (S2 S x y) m j).cells, p.1 ≠ 10 → renO (rho 12 a) p.2 = p.2 := fa_cons (fun _ => rfl) (fa_cons (fun _ => rfl) (fa_cons (fun _ => rfl) (fa_cons (fun _ => rfl) (fa_cons (fun _ => rfl) (fa_cons (fun _ => rfl) (fa_cons (fun _ => rfl) (fa_cons (fun _ => rfl) (fa_cons (fun _ => congrArg AO.list (I.items.ren)) (fa_cons (fun _ => rfl) (fa_cons (fun h => absurd rfl h) (fa_cons (fun _ => congrArg AO.list ((AInts.of _).ren)) (fa_cons (fun _ => congrArg AO.list (I.up.ren)) (fa_cons (fun _ => congrArg AO.list (I.served.ren)) (fa_cons (fun _ => rfl) (fa_cons (fun _ => congrArg AO.list ((AInts.of _).ren)) (fa_cons (fun _ => rfl) (fa_cons (fun _ => rfl) (fa_cons (fun _ => rfl) (fa_cons (fun _ => rfl) (fa_cons (fun _ => rfl) (fa_cons (fun _ => rfl) (fa_cons (fun _ => rfl) (fa_cons (fun _ => congrArg AO.list ((AInts.of _).ren)) (fa_cons (fun _ => congrArg AO.list ((AInts.of _).ren)) (fa_cons (fun _ => congrArg AO.list ((AInts.of _).ren)) (fa_cons (fun _ => rfl) (fa_cons (fun _ => rfl) (fa_cons (fun _ => rfl) (fa_cons (fun _ => rfl) (fa_cons (fun _ => rfl) (fa_cons (fun _ => rfl) (fa_cons (fun _ => rfl) (fa_cons (fun _ => congrArg AO.list (hx.ren)) (fa_cons (fun _ => congrArg AO.list (hy.ren)) (fa_cons (fun _ => rfl) (fa_cons (fun _ => rfl) (fa_nil)))))))))))))))))))))))))))))))))))))
theorem ren_2_13 (I : LI S) (hx : AInts x.lt) (hy : AInts y.lt) {a : Nat} : ∀ p ∈ (hp n 2 (S2 S x y) m j).cells, p.1 ≠ 10 → renO (rho 13 a) p.2 = p.2 := fa_cons (fun _ => rfl) (fa_cons (fun _ => rfl) (fa_cons (fun _ => rfl) (fa_cons (fun _ => rfl) (fa_cons (fun _ => rfl) (fa_cons (fun _ => rfl) (fa_cons (fun _ => rfl) (fa_cons (fun _ => rfl) (fa_cons (fun _ => congrArg AO.list (I.items.ren)) (fa_cons (fun _ => rfl) (fa_cons (fun h => absurd rfl h) (fa_cons (fun _ => congrArg AO.list ((AInts.of _).ren)) (fa_cons (fun _ => congrArg AO.list (I.up.ren)) (fa_cons (fun _ => congrArg AO.list (I.served.ren)) (fa_cons (fun _ => rfl) (fa_cons (fun _ => congrArg AO.list ((AInts.of _).ren)) (fa_cons (fun _ => rfl) (fa_cons (fun _ => rfl) (fa_cons (fun _ => rfl) (fa_cons (fun _ => rfl) (fa_cons (fun _ => rfl) (fa_cons (fun _ => rfl) (fa_cons (fun _ => rfl) (fa_cons (fun _ => congrArg AO.list ((AInts.of _).ren)) (fa_cons (fun _ => congrArg AO.list ((AInts.of _).ren)) (fa_cons (fun _ => congrArg AO.list ((AInts.of _).ren)) (fa_cons (fun _ => rfl) (fa_cons (fun _ => rfl) (fa_cons (fun _ => rfl) (fa_cons (fun _ => rfl) (fa_cons (fun _ => rfl) (fa_cons (fun _ => rfl) (fa_cons (fun _ => rfl) (fa_cons (fun _ => congrArg AO.list (hx.ren)) (fa_cons (fun _ => congrArg AO.list (hy.ren)) (fa_cons (fun _ => rfl) (fa_cons (fun _ => rfl) (fa_nil)))))))))))))))))))))))))))))))))))))
theorem ren_2_33 (I : LI S) (hx : AInts x.lt) (hy : AInts y.lt) {a : Nat} : ∀ p ∈ (hp n 2 (S2 S x y) m j).cells, p.1 ≠ 14 → renO (rho 33 a) p.2 = p.2 := fa_cons (fun _ => rfl) (fa_cons (fun _ => rfl) (fa_cons (fun _ => rfl) (fa_cons (fun _ => rfl) (fa_cons (fun _ => rfl) (fa_cons (fun _ => rfl) (fa_cons (fun _ => rfl) (fa_cons (fun _ => rfl) (fa_cons (fun _ => congrArg AO.list (I.items.ren)) (fa_cons (fun _ => rfl) (fa_cons (fun _ => rfl) (fa_cons (fun _ => congrArg AO.list ((AInts.of _).ren)) (fa_cons (fun _ => congrArg AO.list (I.up.ren)) (fa_cons (fun _ => congrArg AO.list (I.served.ren)) (fa_cons (fun h => absurd rfl h) (fa_cons (fun _ => congrArg AO.list ((AInts.of _).ren)) (fa_cons (fun _ => rfl) (fa_cons (fun _ => rfl) (fa_cons (fun _ => rfl) (fa_cons (fun _ => rfl) (fa_cons (fun _ => rfl) (fa_cons (fun _ => rfl) (fa_cons (fun _ => rfl) (fa_cons (fun _ => congrArg AO.list ((AInts.of _).ren)) (fa_cons (fun _ => congrArg AO.list ((AInts.of _).ren)) (fa_cons (fun _ => congrArg AO.list ((AInts.of _).ren)) (fa_cons (fun _ => rfl) (fa_cons (fun _ => rfl) (fa_cons (fun _ => rfl) (fa_cons (fun _ => rfl) (fa_cons (fun _ => rfl) (fa_cons (fun _ => rfl) (fa_cons (fun _ => rfl) (fa_cons (fun _ => congrArg AO.list (hx.ren)) (fa_cons (fun _ => congrArg AO.list (hy.ren)) (fa_cons (fun _ => rfl) (fa_cons (fun _ => rfl) (fa_nil)))))))))))))))))))))))))))))))))))))
theorem ren_2_34 (I : LI S) (hx : AInts x.lt) (hy : AInts y.lt) {a : Nat} : ∀ p ∈ (hp n 2 (S2 S x y) m j).cells, p.1 ≠ 14 → renO (rho 34 a) p.2 = p.2 := fa_cons (fun _ => rfl) (fa_cons (fun _ => rfl) (fa_cons (fun _ => rfl) (fa_cons (fun _ => rfl) (fa_cons (fun _ => rfl) (fa_cons (fun _ => rfl) (fa_cons (fun _ => rfl) (fa_cons (fun _ => rfl) (fa_cons (fun _ => congrArg AO.list (I.items.ren)) (fa_cons (fun _ => rfl) (fa_cons (fun _ => rfl) (fa_cons (fun _ => congrArg AO.list ((AInts.of _).ren)) (fa_cons (fun _ => congrArg AO.list (I.up.ren)) (fa_cons (fun _ => congrArg AO.list (I.served.ren)) (fa_cons (fun h => absurd rfl h) (fa_cons (fun _ => congrArg AO.list ((AInts.of _).ren)) (fa_cons (fun _ => rfl) (fa_cons (fun _ => rfl) (fa_cons (fun _ => rfl) (fa_cons (fun _ => rfl) (fa_cons (fun _ => rfl) (fa_cons (fun _ => rfl) (fa_cons (fun _ => rfl) (fa_cons (fun _ => congrArg AO.list ((AInts.of _).ren)) (fa_cons (fun _ => congrArg AO.list ((AInts.of _).ren)) (fa_cons (fun _ => congrArg AO.list ((AInts.of _).ren)) (fa_cons (fun _ => rfl) (fa_cons (fun _ => rfl) (fa_cons (fun _ => rfl) (fa_cons (fun _ => rfl) (fa_cons (fun _ => rfl) (fa_cons (fun _ => rfl) (fa_cons (fun _ => rfl) (fa_cons (fun _ => congrArg AO.list (hx.ren)) (fa_cons (fun _ => congrArg AO.list (hy.ren)) (fa_cons (fun _ => rfl) (fa_cons (fun _ => rfl) (fa_nil)))))))))))))))))))))))))))))))))))))
end
end Mine
end
-- M78
section
open PySem PySem.W PyProof.Rows PySem.Calls PySem.Spec
set_option Elab.async false
set_option linter.all false
namespace Mine
-- sets of sources as bits
theorem xor_iff (a b : Bool) : (a ^^ b) = true ↔ ¬ (a = true ↔ b = true) := by induction a <;> induction b <;> simp
noncomputable def Bits (n : Int) (l : List Int) : Prop := ∃ k : Nat, n = k ∧ (∀ i : Nat, k.testBit i = decide ((i : Int) ∈ l)) ∧ l.Nodup ∧ ∀ x ∈ l, 0 ≤ x
theorem Bits.nil : Bits 0 [] := ⟨0, rfl, fun i => by simp, .nil, fun _ h => nomatch h⟩
theorem Bits.nodup {n : Int} {l : List Int} (h : Bits n l) : l.Nodup := h.choose_spec.2.2.1
theorem Bits.nonneg {n : Int} {l : List Int} (h : Bits n l) : 0 ≤ n := by obtain ⟨k, rfl, _⟩ := h; lia
theorem Bits.test {n x : Int} {l : List Int} (h : Bits n l) (hx : 0 ≤ x) : Builtin.bitAnd (n.fdiv (2 ^ x.toNat)) 1 = if x ∈ l then 1 else 0 := by
  obtain ⟨k, rfl, hb, _⟩ := h
  obtain ⟨i, rfl⟩ := Int.eq_ofNat_of_zero_le hx
  rw [bitAnd_m1, Int.toNat_natCast, Int.fdiv_eq_ediv_of_nonneg _ (by exact Int.pow_nonneg (by decide))]
  have e := hb i
  rw [Nat.testBit_eq_decide_div_mod_eq, decide_eq_decide] at e
  by_cases hm : (i : Int) ∈ l
  · rw [if_pos hm]
    have := e.mpr hm
    have c : ((k / 2 ^ i % 2 : Nat) : Int) = 1 := by rw [this]; rfl
    rw [← c]; push_cast; rfl
  · rw [if_neg hm]
    have h2 : k / 2 ^ i % 2 = 0 := by
      have h3 : ¬ k / 2 ^ i % 2 = 1 := fun q => hm (e.mp q)
      lia
    have c : ((k / 2 ^ i % 2 : Nat) : Int) = 0 := by rw [h2]; rfl
    rw [← c]; push_cast; rfl
theorem natCast_pow (i : Nat) : (1 : Int) * 2 ^ i = ((2 ^ i : Nat) : Int) := by push_cast; lia
theorem sub_clr (x y : Nat) : x - (x &&& y) = x &&& (x ^^^ y) := by
  have h := nat_or_add_and (x &&& y) (x &&& (x ^^^ y))
  have h1 : (x &&& y) ||| (x &&& (x ^^^ y)) = x := by
    apply Nat.eq_of_testBit_eq; intro i
    simp only [Nat.testBit_or, Nat.testBit_and, Nat.testBit_xor]
    induction x.testBit i <;> induction y.testBit i <;> rfl
  have h2 : (x &&& y) &&& (x &&& (x ^^^ y)) = 0 := by
    apply Nat.eq_of_testBit_eq; intro i
    simp only [Nat.testBit_and, Nat.testBit_xor, Nat.zero_testBit]
    induction x.testBit i <;> induction y.testBit i <;> rfl
  rw [h1, h2] at h
  lia
theorem and_not (x y : Nat) : Builtin.bitAnd (x : Int) (Builtin.bitNot (y : Int)) = ((x &&& (x ^^^ y) : Nat) : Int) := by
  rw [bitAnd_not, bitAnd_pp (by lia) (by lia)]
  simp only [Int.toNat_natCast]
  have := sub_clr x y
  have h : x &&& y ≤ x := Nat.and_le_left
  lia
theorem or_nat (x y : Nat) : Builtin.bitOr (x : Int) (y : Int) = ((x ||| y : Nat) : Int) := by
  rw [PyProof.Rows.bitOr_and, bitAnd_pp (by lia) (by lia)]
  have := nat_or_add_and x y
  simp only [Int.toNat_natCast]
  lia
theorem and_nat (x y : Nat) : Builtin.bitAnd (x : Int) (y : Int) = ((x &&& y : Nat) : Int) := by
  rw [bitAnd_pp (by lia) (by lia)]; simp only [Int.toNat_natCast]
theorem two_pow_bit (j i : Nat) : (2 ^ j).testBit i = decide (i = j) := by rw [Nat.testBit_two_pow]; simp only [eq_comm]
/-- a line that goes up -/
theorem Bits.up {n x : Int} {l : List Int} (h : Bits n l) (hx : 0 ≤ x) : Bits (Builtin.bitOr n (1 * 2 ^ x.toNat)) (l.filter (fun y => decide (y ≠ x)) ++ [x]) := by
  obtain ⟨k, rfl, hb, hn, hp⟩ := h
  obtain ⟨j, rfl⟩ := Int.eq_ofNat_of_zero_le hx
  refine ⟨k ||| 2 ^ j, ?_, fun i => ?_, ?_, fun y hy => ?_⟩
  · rw [Int.toNat_natCast, natCast_pow, or_nat]
  · rw [Nat.testBit_or, hb, two_pow_bit]
    rw [Bool.eq_iff_iff]
    simp only [Bool.or_eq_true, decide_eq_true_eq, List.mem_append, List.mem_filter, List.mem_singleton]
    constructor
    · rintro (h | rfl)
      · by_cases q : (i : Int) = j
        · exact .inr q
        · exact .inl ⟨h, q⟩
      · exact .inr rfl
    · rintro (h | h)
      · exact .inl h.1
      · exact .inr (by lia)
  · rw [List.nodup_append]
    refine ⟨hn.filter _, by simp, fun a ha b hb => ?_⟩
    simp only [List.mem_singleton] at hb
    subst hb
    have := (List.mem_filter.mp ha).2
    simp only [ne_eq, decide_eq_true_eq] at this
    exact this
  · rcases List.mem_append.mp hy with hy | hy
    · exact hp y (List.mem_filter.mp hy).1
    · simp only [List.mem_singleton] at hy; lia
theorem Bits.add {n x : Int} {l : List Int} (h : Bits n l) (hx : 0 ≤ x) (hm : x ∉ l) : Bits (Builtin.bitOr n (1 * 2 ^ x.toNat)) (l ++ [x]) := by
  have e : l.filter (fun y => decide (y ≠ x)) = l := List.filter_eq_self.mpr fun a ha => by
    simp only [ne_eq, decide_eq_true_eq]; rintro rfl; exact hm ha
  have := h.up hx
  rwa [e] at this
theorem Bits.clear {n x : Int} {l : List Int} (h : Bits n l) (hx : 0 ≤ x) : Bits (Builtin.bitAnd n (Builtin.bitNot (1 * 2 ^ x.toNat))) (l.filter (fun y => decide (y ≠ x))) := by
  obtain ⟨k, rfl, hb, hn, hp⟩ := h
  obtain ⟨j, rfl⟩ := Int.eq_ofNat_of_zero_le hx
  refine ⟨k &&& (k ^^^ 2 ^ j), ?_, fun i => ?_, hn.filter _, fun y hy => hp y (List.mem_filter.mp hy).1⟩
  · rw [Int.toNat_natCast, natCast_pow, and_not]
  · rw [Nat.testBit_and, Nat.testBit_xor, hb, two_pow_bit, Bool.eq_iff_iff]
    simp only [Bool.and_eq_true, decide_eq_true_eq, List.mem_filter, ne_eq, xor_iff]
    constructor
    · rintro ⟨h1, h2⟩
      exact ⟨h1, fun q => h2 ⟨fun _ => by lia, fun _ => h1⟩⟩
    · rintro ⟨h1, h2⟩
      exact ⟨h1, fun q => h2 (by have := q.mp h1; lia)⟩
theorem Bits.pend {n m : Int} {l r : List Int} (h : Bits n l) (h' : Bits m r) : Bits (Builtin.bitAnd n (Builtin.bitNot m)) (l.filter (fun y => decide (y ∉ r))) := by
  obtain ⟨k, rfl, hb, hn, hp⟩ := h
  obtain ⟨j, rfl, hb', hn', hp'⟩ := h'
  refine ⟨_, and_not k j, fun i => ?_, hn.filter _, fun y hy => hp y (List.mem_filter.mp hy).1⟩
  rw [Nat.testBit_and, Nat.testBit_xor, hb, hb', Bool.eq_iff_iff]
  simp only [Bool.and_eq_true, decide_eq_true_eq, List.mem_filter, ne_eq, xor_iff]
  constructor
  · rintro ⟨h1, h2⟩
    exact ⟨h1, fun q => h2 ⟨fun _ => q, fun _ => h1⟩⟩
  · rintro ⟨h1, h2⟩
    exact ⟨h1, fun q => h2 (q.mp h1)⟩
theorem Bits.both {n m : Int} {l r : List Int} (h : Bits n l) (h' : Bits m r) : Bits (Builtin.bitAnd n m) (l.filter (fun y => decide (y ∈ r))) := by
  obtain ⟨k, rfl, hb, hn, hp⟩ := h
  obtain ⟨j, rfl, hb', hn', hp'⟩ := h'
  refine ⟨_, and_nat k j, fun i => ?_, hn.filter _, fun y hy => hp y (List.mem_filter.mp hy).1⟩
  rw [Nat.testBit_and, hb, hb', Bool.eq_iff_iff]
  simp only [Bool.and_eq_true, decide_eq_true_eq, List.mem_filter]
/-- the bits of a set, as a sum -/
theorem Bits.sum : ∀ {l : List Int} {n : Int}, Bits n l → (l.map (fun x => (2 : Int) ^ x.toNat)).sum = n := by
  intro l
  induction l with
  | nil =>
    rintro n ⟨k, rfl, hb, _⟩
    have : k = 0 := Nat.eq_of_testBit_eq fun i => by rw [hb]; simp
    subst this; rfl
  | cons x l ih =>
    rintro n ⟨k, rfl, hb, hn, hp⟩
    obtain ⟨j, rfl⟩ := Int.eq_ofNat_of_zero_le (hp x (.head _))
    have hn' := List.nodup_cons.mp hn
    have B : Bits ((k &&& (k ^^^ 2 ^ j) : Nat) : Int) l := ⟨_, rfl, fun i => by
      rw [Nat.testBit_and, Nat.testBit_xor, hb, two_pow_bit, Bool.eq_iff_iff]
      simp only [Bool.and_eq_true, decide_eq_true_eq, List.mem_cons, ne_eq, xor_iff]
      constructor
      · rintro ⟨h1, h2⟩
        rcases h1 with h1 | h1
        · exact absurd ⟨fun _ => by lia, fun _ => .inl h1⟩ h2
        · exact h1
      · intro h1
        exact ⟨.inr h1, fun q => by
          have := q.mp (.inr h1)
          subst this
          exact hn'.1 h1⟩, hn'.2, fun y hy => hp y (.tail _ hy)⟩
    rw [List.map_cons, List.sum_cons, ih B]
    have hj : k.testBit j = true := by rw [hb]; simp
    have e : k &&& 2 ^ j = 2 ^ j := by
      apply Nat.eq_of_testBit_eq; intro i
      rw [Nat.testBit_and, two_pow_bit]
      by_cases q : i = j
      · subst q; rw [hj]; rfl
      · simp [q]
    have e2 := sub_clr k (2 ^ j)
    rw [e] at e2
    have e3 : 2 ^ j ≤ k := by have := @Nat.and_le_left k (2 ^ j); rw [e] at this; exact this
    rw [← e2, Int.toNat_natCast]
    have e4 : (2 : Int) ^ j = ((2 ^ j : Nat) : Int) := by push_cast; rfl
    rw [e4]
    lia

-- the state between the laps
structure Inv0 (n : Int) (S : LS) : Prop where
  box : ∃ its : List Int, S.items = its.map .int ∧ its.length ≤ 100
  tm : S.mtime = S.time ∧ 0 ≤ S.time ∧ S.time < 2 ^ 64
  wt : S.mwait = S.wait ∧ 0 ≤ S.wait ∧ S.wait < 2 ^ 64
  sf : S.msoft = S.soft ∧ (S.soft = 0 ∨ S.soft = 1)
  rk : S.prio = S.ranks ∧ S.ranks.length = (n + 1).toNat ∧ S.ranks[0]? = some 0
  up : ∃ u : List Int, S.up = u.map .int ∧ Bits S.lines u ∧ ∀ y ∈ u, 1 ≤ y ∧ y ≤ n
  sv : ∃ u : List Int, S.served = u.map .int ∧ Bits S.sv u ∧ ∀ y ∈ u, 1 ≤ y ∧ y ≤ n
structure CInv (n : Int) (x : Cx) : Prop where
  lt : ∃ l : List Int, x.lt = l.map .int ∧ Bits x.en l ∧ ∀ y ∈ l, 1 ≤ y ∧ y ≤ n
  ls : x.th = x.ls
theorem Inv0.li {n : Int} {S : LS} (I : Inv0 n S) : LI S := ⟨by obtain ⟨l, e, _⟩ := I.box; exact ⟨l, e⟩, by obtain ⟨l, e, _⟩ := I.up; exact ⟨l, e⟩, by obtain ⟨l, e, _⟩ := I.sv; exact ⟨l, e⟩⟩
theorem CInv.ai {n : Int} {x : Cx} (I : CInv n x) : AInts x.lt := by obtain ⟨l, e, _⟩ := I.lt; exact ⟨l, e⟩
-- draws
noncomputable def Box (S : LS) : Prop := ∃ its : List Int, S.items = its.map .int ∧ its.length ≤ 100
noncomputable def drV (vs : List AV) (n q : Int) : Int := match vs with
  | [] => (5 * (n + 1) + (n + 1) / 3) % q
  | x :: _ => (match x with | .int k => k % q | _ => 0)
noncomputable def LS.dr (S : LS) (q : Int) : Int := drV S.items S.bx q
theorem Box.nx {S : LS} (h : Box S) : Box S.nx := by
  refine xe12 (h) fun l e hl => ?_
  refine ⟨l.tail, ?_, by rw [List.length_tail]; lia⟩
  show S.items.tail = _
  rw [e, List.map_tail]
theorem Box.g {S : LS} (h : Box S) {q : Int} (hq : 0 < q) : S.G q (S.dr q) := by
  refine xe12 (h) fun l e hl => ?_
  refine ⟨hq, l, e, hl, ?_⟩
  unfold LS.dr
  rw [e]
  induction l <;> rfl
theorem dr_lt {S : LS} {q : Int} (hq : 0 < q) : 0 ≤ S.dr q ∧ S.dr q < q := by
  unfold LS.dr drV
  split
  · exact ⟨Int.emod_nonneg _ (by lia), Int.emod_lt_of_pos _ hq⟩
  · split
    · exact ⟨Int.emod_nonneg _ (by lia), Int.emod_lt_of_pos _ hq⟩
    · lia
theorem Inv0.nx {n : Int} {S : LS} (I : Inv0 n S) : Inv0 n S.nx := ⟨Box.nx I.box, I.tm, I.wt, I.sf, I.rk, I.up, I.sv⟩
theorem Inv0.nxk {n : Int} : ∀ (k : Nat) {S : LS}, Inv0 n S → Inv0 n (nxk S k)
  | 0, _, I => I
  | k + 1, _, I => Inv0.nxk k I.nx
-- the machine's best is the law's
theorem bst_congr {c c' : Int → Bool} {r : Int → Int} : ∀ {l : List Int} {b f : Int}, (∀ x ∈ l, c x = c' x) → bst c r b l f = bst c' r b l f
  | [], _, _, _ => rfl
  | x :: l, b, f, h => by
    rw [bst_cons, bst_cons, h x (.head _)]
    rw [bst_congr (l := l) fun y hy => h y (.tail _ hy), bst_congr (l := l) fun y hy => h y (.tail _ hy)]
theorem bst_mem {c : Int → Bool} {r : Int → Int} : ∀ {l : List Int} {b f : Int}, bst c r b l f = f ∨ (bst c r b l f ∈ l ∧ c (bst c r b l f) = true)
  | [], _, _ => .inl rfl
  | x :: l, b, f => by
    rw [bst_cons]
    split
    · rename_i h
      rcases bst_mem (c := c) (r := r) (l := l) (b := r x) (f := x) with e | ⟨h1, h2⟩
      · rw [e]; exact .inr ⟨.head _, by simp at h; exact h.1⟩
      · exact .inr ⟨.tail _ h1, h2⟩
    · rcases bst_mem (c := c) (r := r) (l := l) (b := b) (f := f) with e | ⟨h1, h2⟩
      · exact .inl e
      · exact .inr ⟨.tail _ h1, h2⟩
theorem wiresF_mem : ∀ {k : Nat} {x y : Int}, y ∈ wiresF k x → x ≤ y ∧ y < x + k
  | 0, _, _, h => nomatch h
  | k + 1, x, y, h => by
    rcases List.mem_cons.mp h with rfl | h
    · lia
    · have := wiresF_mem h; lia
theorem wires_mem {n y : Int} (h : y ∈ wires n) : 1 ≤ y ∧ y ≤ n := by
  have := wiresF_mem h; lia
theorem mem_iff {l : List Int} {x : Int} : mem l x = decide (x ∈ l) := by
  unfold mem
  rw [Bool.eq_iff_iff, List.any_eq_true, decide_eq_true_iff]
  constructor
  · rintro ⟨y, h1, h2⟩; rw [← eq_of_beq h2]; exact h1
  · exact fun h => ⟨x, h, beq_self_eq_true _⟩
theorem bitAt_iff {m x : Int} {l : List Int} (h : Bits m l) (hx : 0 ≤ x) : bitAt m x = decide (x ∈ l) := by
  have := h.test hx
  rw [Int.fdiv_eq_ediv_of_nonneg _ (Int.pow_nonneg (by decide))] at this
  unfold bitAt
  rw [this]
  by_cases q : x ∈ l
  · rw [if_pos q]; simp [q]
  · rw [if_neg q]; simp [q]
theorem best_same {n lines sv en b : Int} {u s l ranks : List Int} (hu : Bits lines u) (hs : Bits sv s) (hl : Bits en l) : plBest n (Builtin.bitAnd (Builtin.bitAnd lines (Builtin.bitNot sv)) en) ranks b = lawBest n u s l ranks b := by
  refine bst_congr fun x hx => ?_
  have := wires_mem hx
  rw [bitAt_iff ((hu.pend hs).both hl) (by lia), mem_iff, mem_iff, mem_iff, Bool.eq_iff_iff]
  simp only [decide_eq_true_eq, List.mem_filter, Bool.and_eq_true, Bool.not_eq_true', decide_eq_false_iff_not]
end Mine
end
-- M79
section
open PySem PySem.W PyProof.Rows PySem.Calls PySem.Spec
set_option Elab.async false
set_option linter.all false
namespace Mine
set_option maxRecDepth 100000
theorem al_nil : ∀ p ∈ ([] : List Prop), p := fun _ h => nomatch h
theorem al_cons {p : Prop} {l : List Prop} (h : p) (k : ∀ q ∈ l, q) : ∀ q ∈ p :: l, q := fun q hq => by
  rcases List.mem_cons.mp hq with rfl | hq
  · exact h
  · exact k q hq
theorem al_app {l r : List Prop} (h : ∀ q ∈ l, q) (k : ∀ q ∈ r, q) : ∀ q ∈ l ++ r, q := fun q hq => (List.mem_append.mp hq).elim (h q) (k q)
theorem gG {S : LS} {q a : Int} (B : Box S) (hq : 0 < q) (h : S.dr q = a) : S.G q a := h ▸ B.g hq
theorem Box.k : ∀ (k : Nat) {S : LS}, Box S → Box (nxk S k)
  | 0, _, B => B
  | k + 1, _, B => Box.k k B.nx
/-- a deed leads from one state to another -/
noncomputable def fixed (ρ : Nat → Nat) : Prop := ∀ i, i ≠ 12 → i ≠ 13 → i ≠ 33 → i ≠ 34 → ρ i = i
structure DeedTo (w : World) (scr : Addr × List Int) (r : Nat) (n c : Int) (S : LS) (m j : Int) (S' : LS) : Prop where
  ex : ∃ (o : Orc) (l : List Nat) (gs : List Prop) (cs : List (Nat × AO)) (k : Nat) (ρ : Nat → Nat),
    fnK w TT (KO w scr o (r + 10)) true (649, 5, none) [.ref 9, .ref 27, .ref 20, .ref 22, .ref 10] ⟨(hp n c S m j).cells, cB l + 42⟩ = gds gs (.ok (.bool true) ⟨cs, k⟩) ∧ (∀ p ∈ gs, p) ∧ Down ρ (hp n c S' m j) ⟨cs, k⟩ ∧ fixed ρ
section
variable {w : World} {scr : Addr × List Int} {r : Nat} {n m j : Int}
theorem DeedTo.of1 {o : Orc} {l : List Nat} {S : LS} {x : Cx} {S0 : LS} {gs : List Prop} {b : Bool} (h : deed w scr o r l n 1 S0 m j = some (gs, .bool b, (hp n 1 (S1 S x) m j).cells)) (hg : ∀ p ∈ gs, p) (hb : b = true) (I : LI S) (hx : AInts x.lt) : DeedTo w scr r n 1 S0 m j (S1 S x) := by
  subst hb
  refine xe22 (chk_some h) fun g k h1 h2 => ?_
  exact ⟨o, l, gs, _, k, _, h1, hg, down_id h2 nd_1 lt_1 (olt_1 I hx), fun _ _ _ _ _ => rfl⟩
theorem DeedTo.of2 {o : Orc} {l : List Nat} {S : LS} {x y : Cx} {S0 : LS} {gs : List Prop} {b : Bool} (h : deed w scr o r l n 2 S0 m j = some (gs, .bool b, (hp n 2 (S2 S x y) m j).cells)) (hg : ∀ p ∈ gs, p) (hb : b = true) (I : LI S) (hx : AInts x.lt) (hy : AInts y.lt) : DeedTo w scr r n 2 S0 m j (S2 S x y) := by
  subst hb
  refine xe22 (chk_some h) fun g k h1 h2 => ?_
  exact ⟨o, l, gs, _, k, _, h1, hg, down_id h2 nd_2 lt_2 (olt_2 I hx hy), fun _ _ _ _ _ => rfl⟩
end
-- words of 32 and 64 bits
theorem or_disj {a b : Int} (ha : 0 ≤ a) (hb : 0 ≤ b ∧ b < 4294967296) : Builtin.bitOr (a * 4294967296) b = a * 4294967296 + b := by
  obtain ⟨x, rfl⟩ := Int.eq_ofNat_of_zero_le ha
  obtain ⟨y, rfl⟩ := Int.eq_ofNat_of_zero_le hb.1
  have hy : y < 4294967296 := by lia
  rw [show (x : Int) * 4294967296 = ((x * 4294967296 : Nat) : Int) from by lia, or_nat]
  have : x * 4294967296 ||| y = x * 4294967296 + y := by
    have h1 := Nat.two_pow_add_eq_or_of_lt (i := 32) (b := y) hy x
    have e1 : 2 ^ 32 * x = x * 4294967296 := by rw [Nat.mul_comm]
    rw [e1] at h1; exact h1.symm
  rw [this]; lia
theorem and64 {x : Int} (hx : 0 ≤ x) : Builtin.bitAnd x 18446744073709551615 = x % 18446744073709551616 := by
  rw [bitAnd_pp hx (by decide)]
  have h : x.toNat &&& (18446744073709551615 : Int).toNat = x.toNat % 18446744073709551616 := Nat.and_two_pow_sub_one_eq_mod x.toNat 64
  rw [h]
  lia
end Mine
end
-- M83
section
open PySem PySem.W PyProof.Rows PySem.Calls PySem.Spec
set_option Elab.async false
set_option linter.all false
namespace Mine
set_option maxRecDepth 100000
section
variable {w : World} {scr : Addr × List Int} {r : Nat} {n m j : Int}
theorem DeedTo.ofT {i t sp : Nat} {c : Int} {o : Orc} {l : List Nat} {T S0 : LS} {gs : List Prop} {b : Bool} {u0 res r0 : List AV} {cx : List (Nat × AO)} {a0 a1 : AO} (h : deedq i w scr o r l n c S0 m j = some (gs, .bool b, cx, some (.list res))) (hres : res = r0) (hg : ∀ p ∈ gs, p) (hb : b = true) (hi : 42 ≤ i)
    (e : cx = setL sp a1 (setL t (.list u0) (hp n c T m j).cells)) (e0 : getO sp (hp n c T m j).cells = some a0) (e1 : getO sp cx = some (renO (rho t (cB l + i)) a0)) (e2 : getO t (hp n c T m j).cells = some (.list r0)) (nd : ((hp n c T m j).cells.map (·.1)).Nodup) (lt : ∀ p ∈ (hp n c T m j).cells, p.1 < 42) (ol : ∀ p ∈ (hp n c T m j).cells, olt 42 p.2)
    (rn : ∀ p ∈ (hp n c T m j).cells, p.1 ≠ sp → renO (rho t (cB l + i)) p.2 = p.2) (ht : t < 42) (hne : sp ≠ t) (hf : t = 12 ∨ t = 13 ∨ t = 33 ∨ t = 34) : DeedTo w scr r n c S0 m j T := by
  subst hb
  refine xe23 (chkq_some h) fun g k h1 h2 h3 => ?_
  refine ⟨o, l, gs, _, k, _, h1, hg, down_t (cs := (hp n c T m j).cells) (cx := cx) (t := t) (a := cB l + i) (sp := sp) h2 nd lt ol ht (by lia) hne (fun q q1 q2 => ?_) (fun q hq => ?_) rn (fun q hq => ?_), fun q a1 a2 a3 a4 => if_neg (by lia)⟩
  · rw [e, setL_other q2, setL_other q1]
  · rw [e0] at hq; obtain rfl := Option.some.inj hq; exact e1
  · rw [e2] at hq; obtain rfl := Option.some.inj hq; rw [h3, hres]
theorem DeedTo.of1_12 {i : Nat} {o : Orc} {l : List Nat} {S : LS} {x : Cx} {S0 : LS} {gs : List Prop} {b : Bool} {u0 res : List AV} (h : deedq i w scr o r l n 1 S0 m j = some (gs, .bool b, (hp n 1 { (S1 S x) with iu := cB l + i, up := u0 } m j).cells, some (.list res))) (hres : res = S.up) (hg : ∀ p ∈ gs, p) (hb : b = true) (hi : 42 ≤ i) (I : LI S) (hx : AInts x.lt) : DeedTo w scr r n 1 S0 m j (S1 S x) := .ofT (t := 12) (sp := 10) (u0 := u0) (a1 := (.pdict [(97, .int (S1 S x).time), (104, .int (S1 S x).wait), (87, .int (S1 S x).soft), (89, .int n), (75, .ref 11), (102, .ref (cB l + i)), (83, .ref 13), (44, .ref 14), (43, .ref 15)])) (a0 := (.pdict [(97, .int (S1 S x).time), (104, .int (S1 S x).wait), (87, .int (S1 S x).soft), (89, .int n), (75, .ref 11), (102, .ref 12), (83, .ref 13), (44, .ref 14), (43, .ref 15)])) h hres hg hb hi (by kernel_rfl) (by kernel_rfl) (by kernel_rfl) (by kernel_rfl) nd_1 lt_1 (olt_1 I hx) (ren_1_12 I hx) (by decide) (by decide) (by decide)
theorem DeedTo.of1_13 {i : Nat} {o : Orc} {l : List Nat} {S : LS} {x : Cx} {S0 : LS} {gs : List Prop} {b : Bool} {u0 res : List AV} (h : deedq i w scr o r l n 1 S0 m j = some (gs, .bool b, (hp n 1 { (S1 S x) with is := cB l + i, served := u0 } m j).cells, some (.list res))) (hres : res = S.served) (hg : ∀ p ∈ gs, p) (hb : b = true) (hi : 42 ≤ i) (I : LI S) (hx : AInts x.lt) : DeedTo w scr r n 1 S0 m j (S1 S x) := .ofT (t := 13) (sp := 10) (u0 := u0) (a1 := (.pdict [(97, .int (S1 S x).time), (104, .int (S1 S x).wait), (87, .int (S1 S x).soft), (89, .int n), (75, .ref 11), (102, .ref 12), (83, .ref (cB l + i)), (44, .ref 14), (43, .ref 15)])) (a0 := (.pdict [(97, .int (S1 S x).time), (104, .int (S1 S x).wait), (87, .int (S1 S x).soft), (89, .int n), (75, .ref 11), (102, .ref 12), (83, .ref 13), (44, .ref 14), (43, .ref 15)])) h hres hg hb hi (by kernel_rfl) (by kernel_rfl) (by kernel_rfl) (by kernel_rfl) nd_1 lt_1 (olt_1 I hx) (ren_1_13 I hx) (by decide) (by decide) (by decide)
theorem DeedTo.of1_33 {i : Nat} {o : Orc} {l : List Nat} {S : LS} {x : Cx} {S0 : LS} {gs : List Prop} {b : Bool} {u0 res : List AV} (h : deedq i w scr o r l n 1 S0 m j = some (gs, .bool b, (hp n 1 { (S1 S x) with il := [cB l + i], lets := [u0] } m j).cells, some (.list res))) (hres : res = x.lt) (hg : ∀ p ∈ gs, p) (hb : b = true) (hi : 42 ≤ i) (I : LI S) (hx : AInts x.lt) : DeedTo w scr r n 1 S0 m j (S1 S x) := .ofT (t := 33) (sp := 14) (u0 := u0) (a1 := (.list [.ref (cB l + i)])) (a0 := (.list [.ref 33])) h hres hg hb hi (by kernel_rfl) (by kernel_rfl) (by kernel_rfl) (by kernel_rfl) nd_1 lt_1 (olt_1 I hx) (ren_1_33 I hx) (by decide) (by decide) (by decide)
theorem DeedTo.of2_12 {i : Nat} {o : Orc} {l : List Nat} {S : LS} {x y : Cx} {S0 : LS} {gs : List Prop} {b : Bool} {u0 res : List AV} (h : deedq i w scr o r l n 2 S0 m j = some (gs, .bool b, (hp n 2 { (S2 S x y) with iu := cB l + i, up := u0 } m j).cells, some (.list res))) (hres : res = S.up) (hg : ∀ p ∈ gs, p) (hb : b = true) (hi : 42 ≤ i) (I : LI S) (hx : AInts x.lt) (hy : AInts y.lt) : DeedTo w scr r n 2 S0 m j (S2 S x y) := .ofT (t := 12) (sp := 10) (u0 := u0) (a1 := (.pdict [(97, .int (S2 S x y).time), (104, .int (S2 S x y).wait), (87, .int (S2 S x y).soft), (89, .int n), (75, .ref 11), (102, .ref (cB l + i)), (83, .ref 13), (44, .ref 14), (43, .ref 15)])) (a0 := (.pdict [(97, .int (S2 S x y).time), (104, .int (S2 S x y).wait), (87, .int (S2 S x y).soft), (89, .int n), (75, .ref 11), (102, .ref 12), (83, .ref 13), (44, .ref 14), (43, .ref 15)])) h hres hg hb hi (by kernel_rfl) (by kernel_rfl) (by kernel_rfl) (by kernel_rfl) nd_2 lt_2 (olt_2 I hx hy) (ren_2_12 I hx hy) (by decide) (by decide) (by decide)
theorem DeedTo.of2_13 {i : Nat} {o : Orc} {l : List Nat} {S : LS} {x y : Cx} {S0 : LS} {gs : List Prop} {b : Bool} {u0 res : List AV} (h : deedq i w scr o r l n 2 S0 m j = some (gs, .bool b, (hp n 2 { (S2 S x y) with is := cB l + i, served := u0 } m j).cells, some (.list res))) (hres : res = S.served) (hg : ∀ p ∈ gs, p) (hb : b = true) (hi : 42 ≤ i) (I : LI S) (hx : AInts x.lt) (hy : AInts y.lt) : DeedTo w scr r n 2 S0 m j (S2 S x y) := .ofT (t := 13) (sp := 10) (u0 := u0) (a1 := (.pdict [(97, .int (S2 S x y).time), (104, .int (S2 S x y).wait), (87, .int (S2 S x y).soft), (89, .int n), (75, .ref 11), (102, .ref 12), (83, .ref (cB l + i)), (44, .ref 14), (43, .ref 15)])) (a0 := (.pdict [(97, .int (S2 S x y).time), (104, .int (S2 S x y).wait), (87, .int (S2 S x y).soft), (89, .int n), (75, .ref 11), (102, .ref 12), (83, .ref 13), (44, .ref 14), (43, .ref 15)])) h hres hg hb hi (by kernel_rfl) (by kernel_rfl) (by kernel_rfl) (by kernel_rfl) nd_2 lt_2 (olt_2 I hx hy) (ren_2_13 I hx hy) (by decide) (by decide) (by decide)
theorem DeedTo.of2_33 {i : Nat} {o : Orc} {l : List Nat} {S : LS} {x y : Cx} {S0 : LS} {gs : List Prop} {b : Bool} {u0 res : List AV} (h : deedq i w scr o r l n 2 S0 m j = some (gs, .bool b, (hp n 2 { (S2 S x y) with il := [cB l + i, 34], lets := [u0, y.lt] } m j).cells, some (.list res))) (hres : res = x.lt) (hg : ∀ p ∈ gs, p) (hb : b = true) (hi : 42 ≤ i) (I : LI S) (hx : AInts x.lt) (hy : AInts y.lt) : DeedTo w scr r n 2 S0 m j (S2 S x y) := .ofT (t := 33) (sp := 14) (u0 := u0) (a1 := (.list [.ref (cB l + i), .ref 34])) (a0 := (.list [.ref 33, .ref 34])) h hres hg hb hi (by kernel_rfl) (by kernel_rfl) (by kernel_rfl) (by kernel_rfl) nd_2 lt_2 (olt_2 I hx hy) (ren_2_33 I hx hy) (by decide) (by decide) (by decide)
theorem DeedTo.of2_34 {i : Nat} {o : Orc} {l : List Nat} {S : LS} {x y : Cx} {S0 : LS} {gs : List Prop} {b : Bool} {u0 res : List AV} (h : deedq i w scr o r l n 2 S0 m j = some (gs, .bool b, (hp n 2 { (S2 S x y) with il := [33, cB l + i], lets := [x.lt, u0] } m j).cells, some (.list res))) (hres : res = y.lt) (hg : ∀ p ∈ gs, p) (hb : b = true) (hi : 42 ≤ i) (I : LI S) (hx : AInts x.lt) (hy : AInts y.lt) : DeedTo w scr r n 2 S0 m j (S2 S x y) := .ofT (t := 34) (sp := 14) (u0 := u0) (a1 := (.list [.ref 33, .ref (cB l + i)])) (a0 := (.list [.ref 33, .ref 34])) h hres hg hb hi (by kernel_rfl) (by kernel_rfl) (by kernel_rfl) (by kernel_rfl) nd_2 lt_2 (olt_2 I hx hy) (ren_2_34 I hx hy) (by decide) (by decide) (by decide)
end
end Mine
end
-- M84
section
open PySem PySem.W PyProof.Rows PySem.Calls PySem.Spec
set_option Elab.async false
set_option linter.all false
namespace Mine
set_option maxRecDepth 100000
-- the pure facts of the sets
theorem wiresF_in : ∀ {k : Nat} {x y : Int}, x ≤ y → y < x + k → y ∈ wiresF k x
  | 0, _, _, h1, h2 => by lia
  | k + 1, x, y, h1, h2 => by
    by_cases e : y = x
    · rw [e]; exact .head _
    · exact .tail _ (wiresF_in (by lia) (by lia))
theorem wiresF_nd : ∀ {k : Nat} {x : Int}, (wiresF k x).Nodup
  | 0, _ => .nil
  | k + 1, x => List.nodup_cons.mpr ⟨fun h => by have := wiresF_mem h; lia, wiresF_nd⟩
theorem mb {n M : Nat} (h : ∀ i < 8, M.testBit i = decide (1 ≤ i ∧ i ≤ n)) (hM : M < 2 ^ 8) (hn : n < 8) (i : Nat) : M.testBit i = decide (1 ≤ i ∧ i ≤ n) := by
  by_cases hi : i < 8
  · exact h i hi
  · rw [Nat.testBit_lt_two_pow (Nat.lt_of_lt_of_le hM (Nat.pow_le_pow_right (by decide) (by lia)))]
    exact (decide_eq_false (by lia)).symm
theorem bits_let {n v : Int} {M : Nat} (hn : 0 ≤ n ∧ n < 8) (hv : 0 ≤ v) (hM : ∀ i < 8, M.testBit i = decide (1 ≤ i ∧ i ≤ n.toNat)) (hM2 : M < 2 ^ 8) : Bits (Builtin.bitAnd v (M : Int)) ((wires n).filter fun x => (v / 2 ^ x.toNat % 2 == 1) == true) := by
  obtain ⟨k, rfl⟩ := Int.eq_ofNat_of_zero_le hv
  refine ⟨k &&& M, and_nat k M, fun i => ?_, wiresF_nd.filter _, fun y hy => ?_⟩
  · rw [Nat.testBit_and, mb hM hM2 (by lia), Nat.testBit_eq_decide_div_mod_eq, Bool.eq_iff_iff]
    simp only [Bool.and_eq_true, decide_eq_true_eq, List.mem_filter, beq_iff_eq]
    have e : ((k : Int) / 2 ^ ((i : Int)).toNat % 2 = 1) ↔ k / 2 ^ i % 2 = 1 := by
      rw [Int.toNat_natCast]
      have : ((k / 2 ^ i % 2 : Nat) : Int) = (k : Int) / 2 ^ i % 2 := by rw [Int.natCast_emod, Int.natCast_ediv, Int.natCast_pow]; rfl
      rw [← this]; lia
    constructor
    · rintro ⟨h1, h2⟩
      exact ⟨wiresF_in (by lia) (by lia), e.mpr h1⟩
    · rintro ⟨h1, h2⟩
      have := wires_mem h1
      exact ⟨e.mp h2, by lia⟩
  · have := wires_mem (List.mem_filter.mp hy).1; lia
theorem len_le {l : List Int} {m : Nat} (hn : l.Nodup) (h : ∀ y ∈ l, 1 ≤ y ∧ y ≤ (m : Int)) : l.length ≤ m := by
  induction m generalizing l with
  | zero =>
    induction l with
    | nil => exact Nat.le_refl _
    | cons y l => have := h y (.head _); lia
  | succ m ih =>
    by_cases hm : ((m + 1 : Nat) : Int) ∈ l
    · have h1 := List.length_erase_of_mem hm
      have h2 := ih (l := l.erase ((m + 1 : Nat) : Int)) (hn.erase _) fun y hy => by
        have := (List.Nodup.mem_erase_iff hn).mp hy
        have := h y this.2
        lia
      have := List.length_pos_of_mem hm
      lia
    · have := ih hn fun y hy => by
        have h1 := h y hy
        have : y ≠ ((m + 1 : Nat) : Int) := fun e => hm (e ▸ hy)
        lia
      lia
theorem Bits.len {n k : Int} {l : List Int} (h : Bits k l) (hb : ∀ y ∈ l, 1 ≤ y ∧ y ≤ n) (hn : 0 ≤ n) : l.length ≤ n.toNat := len_le h.nodup fun y hy => by have := hb y hy; lia
theorem fil_ne {l : List Int} {w : Int} : (l.filter fun z => (z == w) == false) = l.filter fun y => decide (y ≠ w) := by
  refine congrArg (fun f => l.filter f) (funext fun z => ?_)
  by_cases h : z = w
  · subst h; simp
  · simp [h]
theorem fil_in {l r : List Int} : (l.filter fun z => mem r z == false) = l.filter fun y => decide (y ∉ r) := by
  refine congrArg (fun f => l.filter f) (funext fun z => ?_)
  rw [mem_iff]
  by_cases h : z ∈ r <;> simp [h]
section
variable {w : World} {scr : Addr × List Int} {r : Nat} {n m j : Int} {S : LS} {x y : Cx}
theorem Inv0.up_len (I : Inv0 n S) (hn : 0 ≤ n ∧ n < 8) {u : List Int} (h : Bits S.lines u) (hb : ∀ y ∈ u, 1 ≤ y ∧ y ≤ n) : u.length < 8 := by have := h.len hb hn.1; lia
/-- a line is set -/
theorem Inv0.lin (I : Inv0 n S) {u : List Int} {li : Int} (k : Nat) (h : Bits li u) (hb : ∀ y ∈ u, 1 ≤ y ∧ y ≤ n) {up : List AV} (e : up = u.map .int) : Inv0 n { Mine.nxk S k with up := up, lines := li } :=
  ⟨(I.nxk k).box, (I.nxk k).tm, (I.nxk k).wt, (I.nxk k).sf, (I.nxk k).rk, ⟨u, e, h, hb⟩, (I.nxk k).sv⟩
theorem Inv0.ser (I : Inv0 n S) {u : List Int} {li : Int} (k : Nat) (h : Bits li u) (hb : ∀ y ∈ u, 1 ≤ y ∧ y ≤ n) {up : List AV} (e : up = u.map .int) : Inv0 n { Mine.nxk S k with served := up, sv := li } :=
  ⟨(I.nxk k).box, (I.nxk k).tm, (I.nxk k).wt, (I.nxk k).sf, (I.nxk k).rk, (I.nxk k).up, ⟨u, e, h, hb⟩⟩
end
theorem Bits.small {e : Int} {l : List Int} (h : Bits e l) (hb : ∀ y ∈ l, y < 8) : 0 ≤ e ∧ e < 256 := by
  obtain ⟨k, rfl, hk, _, _⟩ := h
  have : k < 2 ^ 8 := Nat.lt_pow_two_of_testBit k fun i hi => by
    rw [hk]
    exact decide_eq_false fun q => by have := hb _ q; lia
  lia
section
variable {w : World} {scr : Addr × List Int} {r : Nat} {n m j : Int} {S : LS} {c : Nat} {zs : List Cx}
theorem Zs.pos (h : Zs c zs) : (0 : Int) < c := by rcases h with ⟨rfl, _⟩ | ⟨rfl, _⟩ <;> decide
theorem Zs.len (h : Zs c zs) : zs.length = c := by rcases h with ⟨rfl, _, rfl⟩ | ⟨rfl, _, _, rfl⟩ <;> rfl
theorem Zs.set (h : Zs c zs) (k : Nat) (z : Cx) : Zs c (zs.set k z) := by
  rcases h with ⟨rfl, x, rfl⟩ | ⟨rfl, x, y, rfl⟩
  · induction k with
    | zero => exact .inl ⟨rfl, _, rfl⟩
    | succ k => exact .inl ⟨rfl, _, rfl⟩
  · match k with
    | 0 => exact .inr ⟨rfl, _, _, rfl⟩
    | 1 => exact .inr ⟨rfl, _, _, rfl⟩
    | _ + 2 => exact .inr ⟨rfl, _, _, rfl⟩
theorem Zs.at (h : Zs c zs) {k : Nat} (hk : k < c) : zAt zs k ∈ zs := by
  rcases h with ⟨rfl, x, rfl⟩ | ⟨rfl, x, y, rfl⟩
  · obtain rfl : k = 0 := by lia
    exact .head _
  · rcases (by lia : k = 0 ∨ k = 1) with rfl | rfl
    · exact .head _
    · exact .tail _ (.head _)
theorem drN {T : LS} {q : Int} (hq : 0 < q) : ∃ k : Nat, T.dr q = k ∧ (k : Int) < q := by
  have b := dr_lt (S := T) hq
  obtain ⟨k, hk⟩ := Int.eq_ofNat_of_zero_le b.1
  exact ⟨k, hk, by lia⟩
noncomputable def AZ (zs : List Cx) : Prop := ∀ z ∈ zs, AInts z.lt
theorem DeedTo.ofC (hz : Zs c zs) (hA : AZ zs) {o : Orc} {l : List Nat} {S0 : LS} {gs : List Prop} {b : Bool} (h : deed w scr o r l n c S0 m j = okE n c gs b (ZC S zs) m j) (hg : ∀ p ∈ gs, p) (hb : b = true) (I : LI S) : DeedTo w scr r n c S0 m j (ZC S zs) := by
  rcases hz with ⟨rfl, x, rfl⟩ | ⟨rfl, x, y, rfl⟩
  · exact .of1 (x := x) h hg hb I (hA x (.head _))
  · exact .of2 (x := x) (y := y) h hg hb I (hA x (.head _)) (hA y (.tail _ (.head _)))
theorem DeedTo.ofC_12 (hz : Zs c zs) (hA : AZ zs) {i : Nat} {o : Orc} {l : List Nat} {S0 : LS} {gs : List Prop} {b : Bool} {u0 res : List AV} (h : deedq i w scr o r l n c S0 m j = okQ n c gs b { (ZC S zs) with iu := cB l + i, up := u0 } m j res) (hres : res = S.up) (hg : ∀ p ∈ gs, p) (hb : b = true) (hi : 42 ≤ i) (I : LI S) : DeedTo w scr r n c S0 m j (ZC S zs) := by
  rcases hz with ⟨rfl, x, rfl⟩ | ⟨rfl, x, y, rfl⟩
  · exact .of1_12 (x := x) h hres hg hb hi I (hA x (.head _))
  · exact .of2_12 (x := x) (y := y) h hres hg hb hi I (hA x (.head _)) (hA y (.tail _ (.head _)))
theorem DeedTo.ofC_13 (hz : Zs c zs) (hA : AZ zs) {i : Nat} {o : Orc} {l : List Nat} {S0 : LS} {gs : List Prop} {b : Bool} {u0 res : List AV} (h : deedq i w scr o r l n c S0 m j = okQ n c gs b { (ZC S zs) with is := cB l + i, served := u0 } m j res) (hres : res = S.served) (hg : ∀ p ∈ gs, p) (hb : b = true) (hi : 42 ≤ i) (I : LI S) : DeedTo w scr r n c S0 m j (ZC S zs) := by
  rcases hz with ⟨rfl, x, rfl⟩ | ⟨rfl, x, y, rfl⟩
  · exact .of1_13 (x := x) h hres hg hb hi I (hA x (.head _))
  · exact .of2_13 (x := x) (y := y) h hres hg hb hi I (hA x (.head _)) (hA y (.tail _ (.head _)))
theorem DeedTo.ofC_33 (hz : Zs c zs) (hA : AZ zs) {k : Nat} (hk : k < c) {z : Cx} {i : Nat} {o : Orc} {l : List Nat} {S0 : LS} {gs : List Prop} {b : Bool} {res : List AV} (h : deedq i w scr o r l n c S0 m j = okQ n c gs b { ZC S (zs.set k z) with il := ([33, 34].take c).set k (cB l + i), lets := zs.map Cx.lt } m j res) (hres : res = z.lt) (hza : AInts z.lt) (hg : ∀ p ∈ gs, p) (hb : b = true) (hi : 42 ≤ i) (I : LI S) : DeedTo w scr r n c S0 m j (ZC S (zs.set k z)) := by
  rcases hz with ⟨rfl, x, rfl⟩ | ⟨rfl, x, y, rfl⟩
  · obtain rfl : k = 0 := by lia
    exact .of1_33 (x := z) (u0 := x.lt) h hres hg hb hi I hza
  · rcases (by lia : k = 0 ∨ k = 1) with rfl | rfl
    · exact .of2_33 (x := z) (y := y) (u0 := x.lt) h hres hg hb hi I hza (hA y (.tail _ (.head _)))
    · exact .of2_34 (x := x) (y := z) (u0 := y.lt) h hres hg hb hi I (hA x (.head _)) hza
/-- a deed is done and all is well -/
noncomputable def To (w : World) (scr : Addr × List Int) (r : Nat) (n : Int) (c : Nat) (S : LS) (zs : List Cx) (m j : Int) : Prop := ∃ S' zs', DeedTo w scr r n c (ZC S zs) m j (ZC S' zs') ∧ Inv0 n S' ∧ Zs c zs' ∧ ∀ z ∈ zs', CInv n z
theorem az (hC : ∀ z ∈ zs, CInv n z) : AZ zs := fun z h => (hC z h).ai
theorem To.of (hz : Zs c zs) (hC : ∀ z ∈ zs, CInv n z) {o : Orc} {l : List Nat} {S' T : LS} {gs : List Prop} {b : Bool} (h : deed w scr o r l n c (ZC S zs) m j = okE n c gs b T m j) (e : T = ZC S' zs) (hg : ∀ p ∈ gs, p) (hb : b = true) (I : Inv0 n S') : To w scr r n c S zs m j := by
  subst e
  exact ⟨S', zs, .ofC hz (az hC) h hg hb I.li, I, hz, hC⟩
theorem eqv {a b : Int} (h : a = b) : ((a == b) == true) = true := by subst h; simp
end
end Mine
end
-- M80
section
open PySem PySem.W PyProof.Rows PySem.Calls PySem.Spec
set_option Elab.async false
set_option linter.all false
namespace Mine
set_option maxRecDepth 100000
section
variable {w : World} {scr : Addr × List Int} {r : Nat} {n m j : Int} {S : LS} {c : Nat} {zs : List Cx}
theorem ckr_a (hz : Zs c zs) {x1 v : Int} : ∀ a ∈ List.range 2, ∀ i ∈ List.range 5, ckrD w scr r (ZC S zs) n m j c x1 v a i = ckrE (ZC S zs) n m j c x1 v a i := by
  rcases hz with ⟨rfl, x, rfl⟩ | ⟨rfl, x, y, rfl⟩
  · exact each2 (ckr_1 w scr r)
  · exact each2 (ckr_2 w scr r)
theorem ckw_a (hz : Zs c zs) {x1 v : Int} : ∀ a ∈ List.range 2, ∀ i ∈ List.range 5, ∀ k ∈ List.range 2, ckwD w scr r (ZC S zs) n m j c x1 v a i k = ckwE (ZC S zs) n m j c x1 v a i k := by
  rcases hz with ⟨rfl, x, rfl⟩ | ⟨rfl, x, y, rfl⟩
  · exact each3 (ckw_1 w scr r)
  · exact each3 (ckw_2 w scr r)
theorem tk1_a (hz : Zs c zs) {x1 : Int} : ∀ i ∈ List.range 4, tk1D w scr r (ZC S zs) n m j c x1 i = tk1E (ZC S zs) n m j c x1 i := by
  rcases hz with ⟨rfl, x, rfl⟩ | ⟨rfl, x, y, rfl⟩
  · exact each_map (tk1_1 w scr r)
  · exact each_map (tk1_2 w scr r)
theorem tk0_a (hz : Zs c zs) {x1 v : Int} : ∀ i ∈ List.range 4, tk0D w scr r (ZC S zs) n m j c x1 v i = tk0E (ZC S zs) n m j c x1 v i := by
  rcases hz with ⟨rfl, x, rfl⟩ | ⟨rfl, x, y, rfl⟩
  · exact each_map (tk0_1 w scr r)
  · exact each_map (tk0_2 w scr r)
theorem vv_ok {k : Nat} {v : Int} (hv : 0 ≤ v ∧ v < 4294967296) : vv k v % 4294967296 = v := by
  induction k with
  | zero => show Builtin.bitAnd v 4294967295 % 4294967296 = v; rw [bitAnd_m32]; lia
  | succ k => show (v + 12884901888) % 4294967296 = v; lia
theorem wLo_ok {a b v q : Int} (e : b = a) (ha : 0 ≤ a ∧ a < 2 ^ 64) (hq : q % 4294967296 = v) : wLo b q = v + 4294967296 * (a / 4294967296) ∧ 0 ≤ v + 4294967296 * (a / 4294967296) ∧ v + 4294967296 * (a / 4294967296) < 2 ^ 64 := by
  subst e
  unfold wLo
  rw [bitAnd_m32, hq, or_disj (by lia) (by lia)]
  lia
theorem wHi_ok {a b v q : Int} (e : b = a) (ha : 0 ≤ a ∧ a < 2 ^ 64) (hq : q % 4294967296 = v) : wHi b q = a % 4294967296 + 4294967296 * v ∧ 0 ≤ a % 4294967296 + 4294967296 * v ∧ a % 4294967296 + 4294967296 * v < 2 ^ 64 := by
  subst e
  unfold wHi
  rw [bitAnd_m32, bitAnd_m32, hq, or_disj (by lia) (by lia)]
  lia
theorem wrG_ok {a : Int} (h : 0 ≤ a ∧ a < 2 ^ 64) : ∀ p ∈ wrG a, p := al_cons ⟨by decide, by decide, by lia⟩ al_nil
theorem Inv0.tick (I : Inv0 n S) {k : Int} (hk : 0 ≤ k) : Inv0 n (tkS S k) := by
  have := I.tm.2
  exact ⟨I.box, ⟨by show Builtin.bitAnd (S.mtime + k) 18446744073709551615 = (S.time + k) % 18446744073709551616; rw [I.tm.1, and64 (by lia)], by show 0 ≤ (S.time + k) % 18446744073709551616; lia, by show (S.time + k) % 18446744073709551616 < 2 ^ 64; lia⟩, I.wt, I.sf, I.rk, I.up, I.sv⟩
theorem tkN_pos {i : Nat} : 0 ≤ tkN i := by
  unfold tkN
  split <;> decide
theorem dclk (hz : Zs c zs) (hC : ∀ z ∈ zs, CInv n z) (I : Inv0 n S) {a : Nat} (ha : a < 2) (hw : S.dr 9 = a) : To w scr r n c S zs m j := by
  have B : Box (ZC S zs) := I.box
  obtain ⟨x1, h1⟩ : ∃ x1, (nxk (ZC S zs) 1).dr c = x1 := ⟨_, rfl⟩
  refine xe12 (drN (T := nxk (ZC S zs) 2) (q := 5) (by first | decide | lia)) fun i hi bi => ?_
  obtain ⟨v, hv⟩ : ∃ v, (nxk (ZC S zs) 3).dr 4294967296 = v := ⟨_, rfl⟩
  have bv := dr_lt (S := nxk (ZC S zs) 3) (q := 4294967296) (by decide)
  rw [hv] at bv
  refine xe12 (drN (T := nxk (ZC S zs) 4) (q := 2) (by first | decide | lia)) fun u hu bu => ?_
  refine xe12 (drN (T := nxk (ZC S zs) 5) (q := 2) (by first | decide | lia)) fun k hk bk => ?_
  have q := vv_ok (k := k) bv
  have i5 : i = 0 ∨ i = 1 ∨ i = 2 ∨ i = 3 ∨ i = 4 := by lia
  rcases (by lia : u = 0 ∨ u = 1) with rfl | rfl
  · refine .of hz hC (S' := nxk S 5) (ckr_a hz a (List.mem_range.mpr ha) i (List.mem_range.mpr (by lia))) rfl (al_cons (gG (B.k 0) (by decide) hw) (al_cons (gG (B.k 1) hz.pos h1) (al_cons (gG (B.k 2) (by decide) hi) (al_cons (gG (B.k 3) (by decide) hv) (al_cons (gG (B.k 4) (by decide) hu) al_nil))))) (eq1_true ?_) (I.nxk 5)
    have := I.sf.2
    have := I.wt.2
    have := I.tm.2
    rcases i5 with rfl | rfl | rfl | rfl | rfl
    · show Builtin.bitAnd S.msoft 4294967295 = S.soft; rw [bitAnd_m32, I.sf.1]; lia
    · show Builtin.bitAnd (Builtin.bitAnd S.mwait 4294967295) 4294967295 = S.wait / 1 % 4294967296; rw [bitAnd_m32, bitAnd_m32, I.wt.1]; lia
    · show Builtin.bitAnd (S.mwait / 4294967296) 4294967295 = S.wait / 4294967296 % 4294967296; rw [bitAnd_m32, I.wt.1]
    · show Builtin.bitAnd (Builtin.bitAnd S.mtime 4294967295) 4294967295 = S.time / 1 % 4294967296; rw [bitAnd_m32, bitAnd_m32, I.tm.1]; lia
    · show Builtin.bitAnd (S.mtime / 4294967296) 4294967295 = S.time / 4294967296 % 4294967296; rw [bitAnd_m32, I.tm.1]
  · have J := I.nxk 6
    have h := ckw_a (w := w) (scr := scr) (r := r) (n := n) (m := m) (j := j) (S := S) (x1 := x1) (v := v) hz a (List.mem_range.mpr ha) i (List.mem_range.mpr (by lia)) k (List.mem_range.mpr (by lia))
    have G : ∀ p ∈ [(nxk (ZC S zs) 0).G 9 a, (nxk (ZC S zs) 1).G c x1, (nxk (ZC S zs) 2).G 5 i, (nxk (ZC S zs) 3).G 4294967296 v, (nxk (ZC S zs) 4).G 2 1, (nxk (ZC S zs) 5).G 2 k], p := (al_cons (gG (B.k 0) (by decide) hw) (al_cons (gG (B.k 1) hz.pos h1) (al_cons (gG (B.k 2) (by decide) hi) (al_cons (gG (B.k 3) (by decide) hv) (al_cons (gG (B.k 4) (by decide) hu) (al_cons (gG (B.k 5) (by decide) hk) al_nil))))))
    have hw1 : 0 ≤ S.mwait / 4294967296 ∧ S.mwait / 4294967296 < 2 ^ 64 := by rw [I.wt.1]; have := I.wt.2; lia
    have hw2 : 0 ≤ Builtin.bitAnd (vv k v) 4294967295 ∧ Builtin.bitAnd (vv k v) 4294967295 < 2 ^ 64 := by rw [bitAnd_m32]; lia
    have hw3 : 0 ≤ S.mtime / 4294967296 ∧ S.mtime / 4294967296 < 2 ^ 64 := by rw [I.tm.1]; have := I.tm.2; lia
    rcases i5 with rfl | rfl | rfl | rfl | rfl
    · exact .of hz hC (S' := wrS (nxk S 6) v (vv k v) 0) h rfl (al_app G al_nil) rfl ⟨J.box, J.tm, J.wt, ⟨by show Builtin.bitAnd (vv k v) 1 = v % 2; rw [bitAnd_m1]; lia, by show v % 2 = 0 ∨ v % 2 = 1; lia⟩, J.rk, J.up, J.sv⟩
    · exact .of hz hC (S' := wrS (nxk S 6) v (vv k v) 1) h rfl (al_app G (wrG_ok hw1)) rfl ⟨J.box, J.tm, wLo_ok I.wt.1 I.wt.2 q, J.sf, J.rk, J.up, J.sv⟩
    · exact .of hz hC (S' := wrS (nxk S 6) v (vv k v) 2) h rfl (al_app G (wrG_ok hw2)) rfl ⟨J.box, J.tm, wHi_ok I.wt.1 I.wt.2 q, J.sf, J.rk, J.up, J.sv⟩
    · exact .of hz hC (S' := wrS (nxk S 6) v (vv k v) 3) h rfl (al_app G (wrG_ok hw3)) rfl ⟨J.box, wLo_ok I.tm.1 I.tm.2 q, J.wt, J.sf, J.rk, J.up, J.sv⟩
    · exact .of hz hC (S' := wrS (nxk S 6) v (vv k v) 4) h rfl (al_app G (wrG_ok hw2)) rfl ⟨J.box, wHi_ok I.tm.1 I.tm.2 q, J.wt, J.sf, J.rk, J.up, J.sv⟩
theorem dtik (hz : Zs c zs) (hC : ∀ z ∈ zs, CInv n z) (I : Inv0 n S) (hw : S.dr 9 = 2) : To w scr r n c S zs m j := by
  have B : Box (ZC S zs) := I.box
  obtain ⟨x1, h1⟩ : ∃ x1, (nxk (ZC S zs) 1).dr c = x1 := ⟨_, rfl⟩
  refine xe12 (drN (T := nxk (ZC S zs) 2) (q := 4) (by first | decide | lia)) fun i hi bi => ?_
  refine xe12 (drN (T := nxk (ZC S zs) 3) (q := 2) (by first | decide | lia)) fun u hu bu => ?_
  obtain ⟨v, hv⟩ : ∃ v, (nxk (ZC S zs) 4).dr 3 = v := ⟨_, rfl⟩
  have bv := dr_lt (S := nxk (ZC S zs) 4) (q := 3) (by decide)
  rw [hv] at bv
  rcases (by lia : u = 0 ∨ u = 1) with rfl | rfl
  · have J := (I.nxk 5).tick (tkN_pos (i := i))
    have K := J.tm.2
    exact .of hz hC (S' := tkW (tkS (nxk S 5) (tkN i)) v) (tk0_a hz i (List.mem_range.mpr (by lia))) rfl (al_cons (gG (B.k 0) (by decide) hw) (al_cons (gG (B.k 1) hz.pos h1) (al_cons (gG (B.k 2) (by decide) hi) (al_cons (gG (B.k 3) (by decide) hu) (al_cons (gG (B.k 4) (by decide) hv) al_nil))))) rfl ⟨J.box, J.tm, ⟨by show Builtin.bitAnd (((tkS (nxk S 5) (tkN i)).time + v - 1) % 18446744073709551616 + 18446744073709551616) 18446744073709551615 = ((tkS (nxk S 5) (tkN i)).time + v - 1) % 18446744073709551616; rw [and64 (by lia)]; lia, by show 0 ≤ ((tkS (nxk S 5) (tkN i)).time + v - 1) % 18446744073709551616; lia, by show ((tkS (nxk S 5) (tkN i)).time + v - 1) % 18446744073709551616 < 2 ^ 64; lia⟩, J.sf, J.rk, J.up, J.sv⟩
  · exact .of hz hC (S' := tkS (nxk S 4) (tkN i)) (tk1_a hz i (List.mem_range.mpr (by lia))) rfl (al_cons (gG (B.k 0) (by decide) hw) (al_cons (gG (B.k 1) hz.pos h1) (al_cons (gG (B.k 2) (by decide) hi) (al_cons (gG (B.k 3) (by decide) hu) al_nil)))) rfl ((I.nxk 4).tick tkN_pos)
end
end Mine
end
-- M81
section
open PySem PySem.W PyProof.Rows PySem.Calls PySem.Spec
set_option Elab.async false
set_option linter.all false
namespace Mine
set_option maxRecDepth 100000
section
variable {w : World} {scr : Addr × List Int} {r : Nat} {n m j : Int} {S : LS} {c : Nat} {zs : List Cx}
theorem wro_a (hz : Zs c zs) {x1 : Int} : ∀ a ∈ [0, 1, 3, 4, 5], ∀ b ∈ List.range 4, ∀ e ∈ List.range 2, wroD w scr r (ZC S zs) m j c x1 n a b e = wroE (ZC S zs) m j c x1 n a b e := by
  rcases hz with ⟨rfl, x, rfl⟩ | ⟨rfl, x, y, rfl⟩
  · exact each3 (wro_1 w scr r)
  · exact each3 (wro_2 w scr r)
theorem wr2_a (hz : Zs c zs) {x1 : Int} : ∀ N ∈ [3, 7, 4], ∀ b ∈ List.range 4, ∀ e ∈ List.range 2, wr2D w scr r (ZC S zs) m j c x1 N b e = wr2E (ZC S zs) m j c x1 N b e := by
  rcases hz with ⟨rfl, x, rfl⟩ | ⟨rfl, x, y, rfl⟩
  · exact each3 (wr2_1 w scr r)
  · exact each3 (wr2_2 w scr r)
theorem wrP_ok {a : Nat} (hn : n ≤ 7) : ∀ p ∈ wrP a n, p := by
  unfold wrP
  split
  · exact al_cons (decide_eq_false (by lia)) (al_cons (decide_eq_false (by lia)) al_nil)
  · exact al_cons (decide_eq_false (by lia)) (al_cons (decide_eq_false (by lia)) al_nil)
  · exact al_cons (decide_eq_false (by lia)) (al_cons (decide_eq_false (by lia)) al_nil)
  · exact al_nil
theorem dwro {N : Nat} (hN : N ∈ [3, 7, 4]) (hz : Zs c zs) (hC : ∀ z ∈ zs, CInv N z) (I : Inv0 N S) (hw : S.dr 9 = 3) : To w scr r N c S zs m j := by
  have B : Box (ZC S zs) := I.box
  obtain ⟨x1, h1⟩ : ∃ x1, (nxk (ZC S zs) 1).dr c = x1 := ⟨_, rfl⟩
  refine xe12 (drN (T := nxk (ZC S zs) 2) (q := 6) (by first | decide | lia)) fun a ha ba => ?_
  refine xe12 (drN (T := nxk (ZC S zs) 3) (q := 4) (by first | decide | lia)) fun b hb bb => ?_
  refine xe12 (drN (T := nxk (ZC S zs) 4) (q := 2) (by first | decide | lia)) fun e he be => ?_
  have hn : (N : Int) ≤ 7 := by
    simp only [List.mem_cons, List.not_mem_nil, or_false] at hN
    lia
  by_cases h2 : a = 2
  · subst h2
    exact .of hz hC (S' := nxk S 5) (wr2_a hz N hN b (List.mem_range.mpr (by lia)) e (List.mem_range.mpr (by lia))) rfl (al_cons (gG (B.k 0) (by decide) hw) (al_cons (gG (B.k 1) hz.pos h1) (al_cons (gG (B.k 2) (by decide) ha) (al_cons (gG (B.k 3) (by decide) hb) (al_cons (gG (B.k 4) (by decide) he) al_nil))))) rfl (I.nxk 5)
  · have ha2 : a ∈ [0, 1, 3, 4, 5] := by
      simp only [List.mem_cons, List.not_mem_nil, or_false]
      lia
    exact .of hz hC (S' := nxk S 5) (wro_a hz a ha2 b (List.mem_range.mpr (by lia)) e (List.mem_range.mpr (by lia))) rfl (al_app (al_app (al_cons (gG (B.k 0) (by decide) hw) (al_cons (gG (B.k 1) hz.pos h1) (al_cons (decide_eq_false (by lia)) (al_cons (gG (B.k 2) (by decide) ha) al_nil)))) (wrP_ok hn)) (al_cons (gG (B.k 3) (by decide) hb) (al_cons (gG (B.k 4) (by decide) he) al_nil))) rfl (I.nxk 5)
end
end Mine
end
-- M82
section
open PySem PySem.W PyProof.Rows PySem.Calls PySem.Spec
set_option Elab.async false
set_option linter.all false
namespace Mine
set_option maxRecDepth 100000
section
variable {w : World} {scr : Addr × List Int} {r : Nat} {n m j : Int} {S : LS} {c : Nat} {zs : List Cx}
theorem rnk_a (hz : Zs c zs) {x1 v : Int} {f : Nat → Int} : ∀ N ∈ [3, 7, 4], ∀ k ∈ List.range (N + 1), rnkD w scr r (ZC S zs) m j c x1 v f N k = rnkE (ZC S zs) m j c x1 v f N k := by
  rcases hz with ⟨rfl, x, rfl⟩ | ⟨rfl, x, y, rfl⟩
  · exact each2 (rnk_1 w scr r)
  · exact each2 (rnk_2 w scr r)
theorem rkT_eq {U : LS} {N : Nat} (h : U.ranks.length = N + 1) (k : U.prio = U.ranks) : rkT U N (fun i => U.ranks.getD i 0) = U := by
  unfold rkT
  rw [list_f (0 : Int) h]
  cases U
  cases k
  rfl
theorem drnk {N : Nat} (hN : N ∈ [3, 7, 4]) (hz : Zs c zs) (hC : ∀ z ∈ zs, CInv N z) (I : Inv0 N S) (hw : S.dr 9 = 4) : To w scr r N c S zs m j := by
  have B : Box (ZC S zs) := I.box
  obtain ⟨x1, h1⟩ : ∃ x1, (nxk (ZC S zs) 1).dr c = x1 := ⟨_, rfl⟩
  refine xe12 (drN (T := nxk (ZC S zs) 2) (q := ((N + 1 : Nat) : Int)) (by first | decide | lia)) fun k hk bk => ?_
  obtain ⟨v, hv⟩ : ∃ v, (nxk (ZC S zs) 3).dr 9 = v := ⟨_, rfl⟩
  have bv := dr_lt (S := nxk (ZC S zs) 3) (q := 9) (by decide)
  rw [hv] at bv
  have hl : S.ranks.length = N + 1 := I.rk.2.1
  have J := I.nxk 4
  have h : rnkD w scr r (ZC S zs) m j c x1 v (fun i => S.ranks.getD i 0) N k = rnkE (ZC S zs) m j c x1 v (fun i => S.ranks.getD i 0) N k := rnk_a hz N hN k (List.mem_range.mpr (by lia))
  unfold rnkD rnkE at h
  have e1 : rkT (ZC S zs) N (fun i => S.ranks.getD i 0) = ZC S zs := rkT_eq (U := ZC S zs) hl I.rk.1
  have e2 : rkT (nxk (ZC S zs) 4) N (fun i => S.ranks.getD i 0) = nxk (ZC S zs) 4 := rkT_eq (U := nxk (ZC S zs) 4) hl I.rk.1
  rw [e1, e2] at h
  have G : ∀ p ∈ [(nxk (ZC S zs) 0).G 9 4, (nxk (ZC S zs) 1).G c x1, (nxk (ZC S zs) 2).G ((N + 1 : Nat) : Int) k, (nxk (ZC S zs) 3).G 9 v], p := (al_cons (gG (B.k 0) (by decide) hw) (al_cons (gG (B.k 1) hz.pos h1) (al_cons (gG (B.k 2) (by lia) hk) (al_cons (gG (B.k 3) (by decide) hv) al_nil))))
  have h0 : S.ranks.getD 0 0 = 0 := by rw [List.getD_eq_getElem?_getD, I.rk.2.2]; rfl
  induction k with
  | zero => exact .of hz hC (S' := nxk S 4) h rfl G (eqv (by show Builtin.bitAnd (S.ranks.getD 0 0) 4294967295 = 0; rw [h0]; decide)) J
  | succ k =>
    have q : Builtin.bitAnd (Builtin.bitAnd v 4294967295) 7 = v % 8 := by rw [bitAnd_m3, bitAnd_m32]; lia
    refine .of hz hC (S' := rkS (nxk S 4) v (k + 1)) h rfl G (eqv (by rw [q, bitAnd_m32]; lia)) ⟨J.box, J.tm, J.wt, J.sf, ⟨?_, ?_, ?_⟩, J.up, J.sv⟩
    · show S.prio.set (k + 1) (Builtin.bitAnd (Builtin.bitAnd v 4294967295) 7) = S.ranks.set (k + 1) (v % 8)
      rw [q, I.rk.1]
    · show (S.ranks.set (k + 1) (v % 8)).length = _
      rw [List.length_set]; exact I.rk.2.1
    · show (S.ranks.set (k + 1) (v % 8))[0]? = _
      rw [List.getElem?_set_ne (by lia)]; exact I.rk.2.2
end
end Mine
end
-- M85
section
open PySem PySem.W PyProof.Rows PySem.Calls PySem.Spec
set_option Elab.async false
set_option linter.all false
namespace Mine
set_option maxRecDepth 100000
section
variable {w : World} {scr : Addr × List Int} {r : Nat} {n m j : Int} {S : LS} {c : Nat} {zs : List Cx}
theorem ctx1 {k : Nat} (h : k < 1) : k ∈ [0] := by
  obtain rfl : k = 0 := by lia
  exact .head _
theorem ctx2 {k : Nat} (h : k < 2) : k ∈ [0, 1] := by
  rcases (by lia : k = 0 ∨ k = 1) with rfl | rfl
  · exact .head _
  · exact .tail _ (.head _)
theorem let_a (hz : Zs c zs) {v d : Int} {res : List AV} : ∀ N ∈ [3, 7, 4], ∀ k < c, ∀ u ∈ [1, 2], letD w scr r (ZC S zs) m j c v d res N k u = letE w (ZC S zs) S zs m j c v d res N k u := by
  rcases hz with ⟨rfl, x, rfl⟩ | ⟨rfl, x, y, rfl⟩
  · exact fun N hN k hk => each3 (let_1 w scr r) N hN k (ctx1 hk)
  · exact fun N hN k hk => each3 (let_2 w scr r) N hN k (ctx2 hk)
theorem lea_a (hz : Zs c zs) {v : Int} : ∀ N ∈ [3, 7, 4], ∀ k < c, leaD w scr r (ZC S zs) m j c v N k = leaE (ZC S zs) S zs m j c v N k := by
  rcases hz with ⟨rfl, x, rfl⟩ | ⟨rfl, x, y, rfl⟩
  · exact fun N hN k hk => each2 (lea_1 w scr r) N hN k (ctx1 hk)
  · exact fun N hN k hk => each2 (lea_2 w scr r) N hN k (ctx2 hk)
theorem let_M : ∀ N ∈ [3, 7, 4], ∀ i < 8, (2 ^ (N + 1) - 2).testBit i = decide (1 ≤ i ∧ i ≤ N) := by decide
theorem N7 {N : Nat} (h : N ∈ [3, 7, 4]) : 3 ≤ N ∧ N < 8 := by
  simp only [List.mem_cons, List.not_mem_nil, or_false] at h
  lia
theorem set_C {z : Cx} {k : Nat} (hC : ∀ z ∈ zs, CInv n z) (h : CInv n z) : ∀ y ∈ zs.set k z, CInv n y := fun y hy => by
  rcases List.mem_or_eq_of_mem_set hy with hy | rfl
  · exact hC y hy
  · exact h
theorem dlet {N : Nat} (hN : N ∈ [3, 7, 4]) (hz : Zs c zs) (hC : ∀ z ∈ zs, CInv N z) (I : Inv0 N S) {k : Nat} (hk : k < c) (hc : (nxk S 1).dr c = k) (hw : S.dr 9 = 5) : To w scr r N c S zs m j := by
  have B : Box (ZC S zs) := I.box
  obtain ⟨v, hv⟩ : ∃ v, (nxk (ZC S zs) 2).dr 256 = v := ⟨_, rfl⟩
  have bv := dr_lt (S := nxk (ZC S zs) 2) (q := 256) (by decide)
  rw [hv] at bv
  refine xe12 (drN (T := nxk (ZC S zs) 3) (q := 3) (by first | decide | lia)) fun u hu bu => ?_
  have J := I.nxk 4
  have hN7 := N7 hN
  have hZ := hC _ (hz.at hk)
  by_cases h0 : u = 0
  · subst h0
    have q : Builtin.bitAnd (Builtin.bitAnd v 4294967295) 7 = v % 8 := by rw [bitAnd_m3, bitAnd_m32]; lia
    have hC' : ∀ y ∈ zs.set k { zAt zs k with ls := v % 8, th := Builtin.bitAnd (Builtin.bitAnd v 4294967295) 7 }, CInv N y := set_C hC ⟨hZ.lt, q⟩
    exact ⟨_, _, .ofC (hz.set k _) (az hC') (lea_a hz N hN k hk) (al_cons (gG (B.k 0) (by decide) hw) (al_cons (gG (B.k 1) hz.pos hc) (al_cons (gG (B.k 2) (by decide) hv) (al_cons (gG (B.k 3) (by decide) hu) al_nil)))) (eqv (by rw [q, bitAnd_m32]; lia)) J.li, J, hz.set k _, hC'⟩
  · obtain ⟨lv, elv⟩ : ∃ lv : List Int, lv = (wires N).filter fun x => (v / 2 ^ x.toNat % 2 == 1) == true := ⟨_, rfl⟩
    have hB : Bits (letM N v) lv := by
      unfold letM
      rw [elv, show Builtin.bitAnd v 4294967295 = v from by rw [bitAnd_m32]; lia]
      exact bits_let (n := N) (v := v) (M := 2 ^ (N + 1) - 2) (by lia) bv.1 (let_M N hN) (by have := Nat.pow_le_pow_right (n := 2) (by decide) (show N + 1 ≤ 8 by lia); lia)
    have hbd : ∀ y ∈ lv, 1 ≤ y ∧ y ≤ (N : Int) := fun y hy => by rw [elv] at hy; exact wires_mem (List.mem_filter.mp hy).1
    have hlen : lv.length < 64 := by have := hB.len hbd (by lia); lia
    have hsum : bitsOf lv = letM N v := hB.sum
    have hR := hB.nonneg
    have hR2 : letM N v < 4294967296 := by
      have := (hB.small fun z hz => by have := hbd z hz; lia).2
      lia
    have hG : CG (dLet w) (hLet N (lv.map .int)) ([], [], v, N) := by rw [elv]; exact cg_let (n := N) (v := v) (by lia)
    have hBi : BiG (lv.map .int) (bitsOf lv) := ⟨lv, rfl, hlen, fun z hz => by have := hbd z hz; lia, rfl⟩
    have hC' : ∀ y ∈ zs.set k { zAt zs k with lt := lv.map .int, en := letM N v }, CInv N y := set_C hC ⟨⟨lv, rfl, hB, hbd⟩, hZ.ls⟩
    exact ⟨_, _, .ofC_33 hz (az hC) hk (let_a hz N hN k hk u (by rcases (by lia : u = 1 ∨ u = 2) with rfl | rfl; exact .head _; exact .tail _ (.head _))) rfl (AInts.of lv) (al_cons (gG (B.k 0) (by decide) hw) (al_cons (gG (B.k 1) hz.pos hc) (al_cons (gG (B.k 2) (by decide) hv) (al_cons (gG (B.k 3) (by decide) hu) (al_cons hG (al_cons hBi al_nil)))))) (eqv (by rw [hsum, bitAnd_m32]; lia)) (by decide) J.li, J, hz.set k _, hC'⟩
end
end Mine
end
-- M86
section
open PySem PySem.W PyProof.Rows PySem.Calls PySem.Spec
set_option Elab.async false
set_option linter.all false
namespace Mine
set_option maxRecDepth 100000
section
variable {w : World} {scr : Addr × List Int} {r : Nat} {n m j : Int} {S : LS} {c : Nat} {zs : List Cx}
theorem lin_a (hz : Zs c zs) {x1 : Int} {res : List AV} : ∀ N ∈ [3, 7, 4], ∀ k ∈ List.range N, ∀ u ∈ List.range 3, linD w scr r (ZC S zs) m j c x1 res N k u = linE w (ZC S zs) m j c x1 res N k u := by
  rcases hz with ⟨rfl, x, rfl⟩ | ⟨rfl, x, y, rfl⟩
  · exact each3 (lin_1 w scr r)
  · exact each3 (lin_2 w scr r)
theorem linT_len {k u : Nat} : (linT k u).length ≤ 1 := by induction u <;> simp [linT]
theorem lin_inv {N : Nat} (hN : N < 8) (I : Inv0 N S) {k u : Nat} (hp : k < N) : ∃ res : List AV, CG (dLin w) (hFil 102 107 res) (S.up, [], ((k + 1 : Nat) : Int), 0) ∧ res.length ≤ 7 ∧ Inv0 N { nxk S 4 with up := res ++ linT k u, lines := linL S.lines k u } := by
  refine xe13 (I.up) fun ul eu hB hbd => ?_
  have hlen := I.up_len (by lia) hB hbd
  refine ⟨(ul.filter fun z => (z == ((k + 1 : Nat) : Int)) == false).map AV.int, ?_, ?_, ?_⟩
  · rw [eu]; exact cg_fil (cs623 w) (by lia)
  · rw [List.length_map]; exact Nat.le_trans (List.length_filter_le _ _) (by lia)
  · have hu := hB.up (x := ((k + 1 : Nat) : Int)) (by lia)
    have hc := hB.clear (x := ((k + 1 : Nat) : Int)) (by lia)
    rw [Int.toNat_natCast, Int.one_mul, ← fil_ne] at hu hc
    induction u with
    | zero => exact I.lin 4 hc (fun z hz => hbd z (List.mem_filter.mp hz).1) (List.append_nil _)
    | succ b => exact I.lin 4 hu (fun z hz => by
        rcases List.mem_append.mp hz with hz | hz
        · exact hbd z (List.mem_filter.mp hz).1
        · rw [List.mem_singleton.mp hz]; lia) (by rw [List.map_append]; rfl)
theorem dlin {N : Nat} (hN : N ∈ [3, 7, 4]) (hz : Zs c zs) (hC : ∀ z ∈ zs, CInv N z) (I : Inv0 N S) (hw : S.dr 9 = 6) : To w scr r N c S zs m j := by
  have hN7 := N7 hN
  have B : Box (ZC S zs) := I.box
  obtain ⟨x1, h1⟩ : ∃ x1, (nxk (ZC S zs) 1).dr c = x1 := ⟨_, rfl⟩
  refine xe12 (drN (T := nxk (ZC S zs) 2) (q := (N : Int)) (by first | decide | lia)) fun k hk bk => ?_
  refine xe12 (drN (T := nxk (ZC S zs) 3) (q := 3) (by first | decide | lia)) fun u hu bu => ?_
  refine xe13 (lin_inv (w := w) hN7.2 I (k := k) (u := u) (by lia)) fun res g1 g2 I2 => ?_
  exact ⟨_, zs, .ofC_12 hz (az hC) (S := { nxk S 4 with up := res ++ linT k u, lines := linL S.lines k u }) (u0 := S.up) (lin_a hz N hN k (List.mem_range.mpr (by lia)) u (List.mem_range.mpr (by lia))) rfl (al_cons (gG (B.k 0) (by decide) hw) (al_cons (gG (B.k 1) hz.pos h1) (al_cons (gG (B.k 2) (by lia) hk) (al_cons (gG (B.k 3) (by decide) hu) (al_cons g1 (al_cons (by have := linT_len (k := k) (u := u); lia) al_nil)))))) rfl (by decide) I2.li, I2, hz, hC⟩
end
end Mine
end
-- M87
section
open PySem PySem.W PyProof.Rows PySem.Calls PySem.Spec
set_option Elab.async false
set_option linter.all false
namespace Mine
set_option maxRecDepth 100000
section
variable {w : World} {scr : Addr × List Int} {r : Nat} {n m j : Int} {S : LS} {c : Nat} {zs : List Cx}
theorem dot_a (hz : Zs c zs) {res : List AV} : ∀ N ∈ [3, 7, 4], ∀ k < c, ∀ a ∈ List.range N, dotD w scr r (ZC S zs) m j c res N k a = dotE w (ZC S zs) zs m j c res N k a := by
  rcases hz with ⟨rfl, x, rfl⟩ | ⟨rfl, x, y, rfl⟩
  · exact fun N hN k hk => each3 (dot_1 w scr r) N hN k (ctx1 hk)
  · exact fun N hN k hk => each3 (dot_2 w scr r) N hN k (ctx2 hk)
theorem dof_a (hz : Zs c zs) : ∀ N ∈ [3, 7, 4], ∀ k < c, ∀ a ∈ List.range (N + 3), dofD w scr r (ZC S zs) m j c N k a = dofE (ZC S zs) zs m j c N k a := by
  rcases hz with ⟨rfl, x, rfl⟩ | ⟨rfl, x, y, rfl⟩
  · exact fun N hN k hk => each3 (dof_1 w scr r) N hN k (ctx1 hk)
  · exact fun N hN k hk => each3 (dof_2 w scr r) N hN k (ctx2 hk)
theorem ddon {N : Nat} (hN : N ∈ [3, 7, 4]) (hz : Zs c zs) (hC : ∀ z ∈ zs, CInv N z) (I : Inv0 N S) {k : Nat} (hk : k < c) (hc : (nxk S 1).dr c = k) (hw : S.dr 9 = 8) : To w scr r N c S zs m j := by
  have hN7 := N7 hN
  have B : Box (ZC S zs) := I.box
  refine xe12 (drN (T := nxk (ZC S zs) 2) (q := ((N + 3 : Nat) : Int)) (by first | decide | lia)) fun a ha ba => ?_
  refine xe13 (I.sv) fun ul eu hB hbd => ?_
  refine xe13 ((hC _ (hz.at hk)).lt) fun lt el hL hlb => ?_
  have hlen := hB.len hbd (by lia)
  have hbit := bitAt_iff (x := (a : Int)) hL (by lia)
  have hmem := mem_iff (l := lt) (x := (a : Int))
  by_cases hm : (a : Int) ∈ lt
  · have hab := hlb _ hm
    rw [decide_eq_true hm] at hbit hmem
    obtain ⟨b, rfl⟩ : ∃ b, a = b + 1 := ⟨a - 1, by lia⟩
    have hc2 := hB.clear (x := ((b + 1 : Nat) : Int)) (by lia)
    rw [Int.toNat_natCast, Int.one_mul, ← fil_ne] at hc2
    have I2 : Inv0 N { nxk S 3 with served := (ul.filter fun z => (z == ((b + 1 : Nat) : Int)) == false).map AV.int, sv := Builtin.bitAnd S.sv (Builtin.bitNot (2 ^ (b + 1))) } := I.ser 3 hc2 (fun z hz => hbd z (List.mem_filter.mp hz).1) rfl
    have hG : CG (dDone w) (hFil 83 107 ((ul.filter fun z => (z == ((b + 1 : Nat) : Int)) == false).map AV.int)) (S.served, [], ((b + 1 : Nat) : Int), 0) := by rw [eu]; exact cg_fil (cs635 w) (by lia)
    exact ⟨_, zs, .ofC_13 hz (az hC) (S := { nxk S 3 with served := (ul.filter fun z => (z == ((b + 1 : Nat) : Int)) == false).map AV.int, sv := Builtin.bitAnd S.sv (Builtin.bitNot (2 ^ (b + 1))) }) (u0 := S.served) (dot_a hz N hN k hk b (List.mem_range.mpr (by lia))) rfl (al_cons (gG (B.k 0) (by decide) hw) (al_cons (gG (B.k 1) hz.pos hc) (al_cons (gG (B.k 2) (by lia) ha) (al_cons ⟨lt, el, hmem⟩ (al_cons hG (al_cons hbit al_nil)))))) rfl (by decide) I2.li, I2, hz, hC⟩
  · rw [decide_eq_false hm] at hbit hmem
    refine .of hz hC (S' := nxk S 3) (dof_a hz N hN k hk a (List.mem_range.mpr (by lia))) rfl (al_app (al_cons (gG (B.k 0) (by decide) hw) (al_cons (gG (B.k 1) hz.pos hc) (al_cons (gG (B.k 2) (by lia) ha) (al_cons ⟨lt, el, hmem⟩ al_nil)))) ?_) rfl (I.nxk 3)
    unfold dofL
    split
    · exact al_cons hbit al_nil
    · exact al_nil
end
end Mine
end
-- M88
section
open PySem PySem.W PyProof.Rows PySem.Calls PySem.Spec
set_option Elab.async false
set_option linter.all false
namespace Mine
set_option maxRecDepth 100000
section
variable {w : World} {scr : Addr × List Int} {r : Nat} {n m j : Int} {S : LS} {c : Nat} {zs : List Cx}
theorem cla_a (hz : Zs c zs) : ∀ N ∈ [3, 7, 4], ∀ k < c, ∀ a ∈ List.range (N + 1), ∀ t ∈ [0, 1], claD w scr r (ZC S zs) m j c N k a t = claE (ZC S zs) zs m j c N k a t := by
  rcases hz with ⟨rfl, x, rfl⟩ | ⟨rfl, x, y, rfl⟩
  · exact fun N hN k hk => each4 (cla_1 w scr r) N hN k (ctx1 hk)
  · exact fun N hN k hk => each4 (cla_2 w scr r) N hN k (ctx2 hk)
/-- what is known of a claim -/
theorem cla_inv {N k : Nat} {z : Cx} {en : List Int} (hN : 0 < N ∧ N < 8) (I : Inv0 (N : Int) S) (hz : CInv (N : Int) z) (hk : k < en.length) (hk2 : k < 100) (hen : en.getD k 0 = z.en) : ∃ A : Nat, A < N + 1 ∧ S.served.length ≤ 1000 ∧ BeG N S.up S.served z.lt (S.ranks.map .int) 0 A ∧ PbG N S.lines S.sv (en.map .int) (S.prio.map .int) k 0 A ∧
    (∀ b, A = b + 1 → Inv0 (N : Int) { nxk S 3 with served := S.served ++ [.int ((b + 1 : Nat) : Int)], sv := Builtin.bitOr S.sv (2 ^ (b + 1)) }) := by
  refine hide fun q9 b9 => ?_
  refine xe13 (I.up) fun ul eu hU hub => ?_
  refine xe13 (I.sv) fun sl es hS hsb => ?_
  refine xe13 (hz.lt) fun lt el hL hlb => ?_
  have hlen := hS.len hsb (by lia)
  have hrl : S.ranks.length = ((N : Int) + 1).toNat := I.rk.2.1
  have hm := bst_mem (c := fun x => mem ul x && !mem sl x && mem lt x) (r := rk S.ranks) (l := wires N) (b := 0) (f := 0)
  obtain ⟨a, ha⟩ : ∃ a, lawBest N ul sl lt S.ranks 0 = a := ⟨_, rfl⟩
  refine b9 ?_
  rw [show bst (fun x => mem ul x && !mem sl x && mem lt x) (rk S.ranks) 0 (wires N) 0 = a from ha] at hm
  have hr : 0 ≤ a ∧ a ≤ N := by
    rcases hm with h | ⟨h, _⟩
    · lia
    · have := wires_mem h; lia
  refine xe1 (Int.eq_ofNat_of_zero_le hr.1) fun A hA => ?_
  subst hA
  refine ⟨A, by lia, by rw [es, List.length_map]; lia, ⟨by lia, by lia, ul, sl, lt, S.ranks, eu, es, el, rfl, by rw [hrl]; exact Nat.le_refl _, ha⟩, ⟨by lia, by lia, by lia, by lia, en, S.prio, rfl, rfl, by rw [I.rk.1, hrl]; exact Nat.le_refl _, by rw [Int.toNat_natCast]; exact hk, by rw [I.rk.1, Int.toNat_natCast, hen]; exact (best_same hU hS hL).trans ha⟩, fun b hb => ?_⟩
  have hna : (A : Int) ∉ sl := by
    rcases hm with h | ⟨_, h⟩
    · lia
    · simp only [mem_iff, Bool.and_eq_true, Bool.not_eq_true', decide_eq_false_iff_not] at h; exact h.1.2
  have h := hS.add (x := (A : Int)) (by lia) hna
  rw [Int.toNat_natCast, Int.one_mul, hb] at h
  exact I.ser 3 h (fun z hz => by
    rcases List.mem_append.mp hz with hz | hz
    · exact hsb z hz
    · rw [List.mem_singleton.mp hz]; lia) (by rw [es, List.map_append]; rfl)
theorem dcla {N : Nat} (hN : N ∈ [3, 7, 4]) (hz : Zs c zs) (hC : ∀ z ∈ zs, CInv N z) (I : Inv0 N S) {k : Nat} (hk : k < c) (hc : (nxk S 1).dr c = k) (hw : S.dr 9 = 7) : To w scr r N c S zs m j := by
  have hN7 := N7 hN
  have B : Box (ZC S zs) := I.box
  refine hide fun q9 b9 => ?_
  refine xe12 (drN (T := nxk (ZC S zs) 2) (q := 2) (by first | decide | lia)) fun t ht bt => ?_
  have hc2 : c ≤ 2 := by rcases hz with ⟨rfl, _⟩ | ⟨rfl, _⟩ <;> decide
  have hen : (zs.map Cx.en).getD k 0 = (zAt zs k).en := by
    rcases hz with ⟨rfl, x, rfl⟩ | ⟨rfl, x, y, rfl⟩
    · obtain rfl : k = 0 := by lia
      rfl
    · rcases (by lia : k = 0 ∨ k = 1) with rfl | rfl <;> rfl
  refine xe15 (cla_inv (en := zs.map Cx.en) (k := k) ⟨by lia, hN7.2⟩ I (hC _ (hz.at hk)) (by rw [List.length_map, hz.len]; exact hk) (by lia) hen) fun A hA hl hb hp hi => ?_
  refine b9 ?_
  have h := cla_a (w := w) (scr := scr) (r := r) (m := m) (j := j) (S := S) hz N hN k hk A (List.mem_range.mpr hA) t (by rcases (by lia : t = 0 ∨ t = 1) with rfl | rfl; exact .head _; exact .tail _ (.head _))
  induction A with
  | zero => exact .of hz hC (S' := nxk S 3) h rfl (al_cons (gG (B.k 0) (by decide) hw) (al_cons (gG (B.k 1) hz.pos hc) (al_cons hb (al_cons (gG (B.k 2) (by decide) ht) (al_cons hp al_nil))))) rfl (I.nxk 3)
  | succ b => exact .of hz hC (S' := { nxk S 3 with served := S.served ++ [.int ((b + 1 : Nat) : Int)], sv := Builtin.bitOr S.sv (2 ^ (b + 1)) }) h rfl (al_cons (gG (B.k 0) (by decide) hw) (al_cons (gG (B.k 1) hz.pos hc) (al_cons hb (al_cons hl (al_cons (gG (B.k 2) (by decide) ht) (al_cons hp al_nil)))))) rfl (hi b rfl)
end
end Mine
end
-- M89
section
open PySem PySem.W PyProof.Rows PySem.Calls PySem.Spec
set_option Elab.async false
set_option linter.all false
namespace Mine
set_option maxRecDepth 100000
section
variable {w : World} {scr : Addr × List Int} {r : Nat} {n m j : Int} {S : LS} {x y : Cx}
structure AlikeTo (w : World) (scr : Addr × List Int) (r : Nat) (n c : Int) (S : LS) (m j : Int) : Prop where
  ex : ∃ (o : Orc) (l : List Nat) (gs : List Prop) (cs : List (Nat × AO)) (k : Nat) (ρ : Nat → Nat),
    fnK w TT (KO w scr o (r + 10)) true (654, 4, none) [.ref 27, .ref 20, .ref 22, .ref 10] ⟨(hp n c S m j).cells, cB l + 42⟩ = gds gs (.ok (.bool true) ⟨cs, k⟩) ∧ (∀ p ∈ gs, p) ∧ Down ρ (hp n c S m j) ⟨cs, k⟩ ∧ fixed ρ
theorem cmp_f {a : Int} (h : 0 ≤ a) : ((((a == 0) == false) == decide (0 < a)) == false) = false := by
  by_cases q : a = 0
  · subst q; rfl
  · rw [show (a == 0) = false from by simpa using q, decide_eq_true (by lia)]; rfl

theorem ali_g (hn : 3 ≤ n ∧ n ≤ 7) (I : Inv0 n S) : ∃ pl : List Int, ∀ p ∈ aliG w S n (bitsOf pl) (pl.map .int), p := by
  refine xe13 (I.up) fun ul eu hU hub => ?_
  refine xe13 (I.sv) fun sl es hS hsb => ?_
  have hP := hU.pend hS
  have hlen : ul.length < 8 := by have := hU.len hub (by lia); lia
  obtain ⟨pl, hpl⟩ : ∃ pl : List Int, pl = ul.filter fun z => mem sl z == false := ⟨_, rfl⟩
  rw [← fil_in, ← hpl] at hP
  have hpm : ∀ z ∈ pl, 1 ≤ z ∧ z ≤ n := fun z hz => by rw [hpl] at hz; exact hub z (List.mem_filter.mp hz).1
  have hsm := hP.small fun z hz => by have := hpm z hz; lia
  have hsum : bitsOf pl = Builtin.bitAnd S.lines (Builtin.bitNot S.sv) := hP.sum
  have hplen : pl.length < 64 := by rw [hpl]; exact Nat.lt_of_le_of_lt (List.length_filter_le _ _) (by lia)
  refine ⟨pl, al_cons ?_ (al_cons ?_ (al_cons ?_ (al_cons (decide_eq_false (by lia)) (al_cons ?_ (al_cons ⟨pl, rfl, hplen, fun z hz => by have := hpm z hz; lia, rfl⟩ (al_cons ?_ al_nil))))))⟩
  · rw [I.tm.1, I.wt.1, beq_self_eq_true, beq_self_eq_true]; rfl
  · rw [I.tm.1, I.wt.1, beq_self_eq_true]; rfl
  · rw [I.sf.1, beq_self_eq_true]; rfl
  · rw [eu, es, hpl]; exact cg_sub (w := w) (us := sl) (by lia)
  · rw [hsum, bitAnd_m32, Int.emod_eq_of_lt hsm.1 (by lia), beq_self_eq_true]; rfl
theorem ali_z {z : Cx} {en : List Int} {k : Nat} (hn : 3 ≤ n ∧ n ≤ 7) (I : Inv0 n S) (hz : CInv n z) (hk : k < en.length) (hk2 : k < 100) (hen : en.getD k 0 = z.en) : ∃ a, ∀ p ∈ aliC S en n k z a, p := by
  refine xe13 (I.up) fun ul eu hU hub => ?_
  refine xe13 (I.sv) fun sl es hS hsb => ?_
  refine xe13 (hz.lt) fun lt el hL hlb => ?_
  have hrl : (n + 1).toNat ≤ S.ranks.length := by rw [I.rk.2.1]; exact Nat.le_refl _
  exact ⟨lawBest n ul sl lt S.ranks z.ls, al_cons ⟨by lia, by lia, by lia, by lia, en, S.prio, rfl, rfl, by rw [I.rk.1]; exact hrl, by rw [Int.toNat_natCast]; exact hk, by rw [I.rk.1, hz.ls, Int.toNat_natCast, hen]; exact best_same hU hS hL⟩ (al_cons ⟨by lia, by lia, ul, sl, lt, S.ranks, eu, es, el, rfl, hrl, rfl⟩
    (al_cons (cmp_f ((bst_mem (c := fun x => mem ul x && !mem sl x && mem lt x) (r := rk S.ranks) (l := wires n) (b := z.ls) (f := 0)).elim (fun h => Int.le_of_eq h.symm) (fun h => Int.le_trans (by decide) (wires_mem h.1).1))) al_nil))⟩
theorem dali_1 (hn : 3 ≤ n ∧ n ≤ 7) (I : Inv0 n S) (hx : CInv n x) : AlikeTo w scr r n 1 (S1 S x) m j := by
  refine xe1 (ali_g (w := w) hn I) fun pl G => ?_
  refine xe1 (ali_z (en := [x.en]) (k := 0) hn I hx (show (0 : Nat) < 1 from by decide) (by decide) rfl) fun a Z => ?_
  refine xe22 (chk_some (ali_1 w scr (m := m) (j := j) (S := S) (x := x) (d := bitsOf pl) (n := n) (res := pl.map .int) (a := a) r)) fun g k h1 h2 => ?_
  exact ⟨_, _, _, _, k, _, h1, al_app G Z, down_id h2 nd_1 lt_1 (olt_1 I.li hx.ai), fun _ _ _ _ _ => rfl⟩
theorem dali_2 (hn : 3 ≤ n ∧ n ≤ 7) (I : Inv0 n S) (hx : CInv n x) (hy : CInv n y) : AlikeTo w scr r n 2 (S2 S x y) m j := by
  refine xe1 (ali_g (w := w) hn I) fun pl G => ?_
  refine xe1 (ali_z (en := [x.en, y.en]) (k := 0) hn I hx (show (0 : Nat) < 2 from by decide) (by decide) rfl) fun a Z => ?_
  refine xe1 (ali_z (en := [x.en, y.en]) (k := 1) hn I hy (show (1 : Nat) < 2 from by decide) (by decide) rfl) fun b Z2 => ?_
  refine xe22 (chk_some (ali_2 w scr (m := m) (j := j) (S := S) (x := x) (y := y) (d := bitsOf pl) (n := n) (res := pl.map .int) (a := a) (b := b) r)) fun g k h1 h2 => ?_
  exact ⟨_, _, _, _, k, _, h1, al_app G (al_app Z Z2), down_id h2 nd_2 lt_2 (olt_2 I.li hx.ai hy.ai), fun _ _ _ _ _ => rfl⟩
end
end Mine
end
-- M90
section
open PySem PySem.W PyProof.Rows PySem.Calls PySem.Spec
set_option Elab.async false
set_option linter.all false
namespace Mine
set_option maxRecDepth 100000
/-- the state between the laps -/
noncomputable def LapOk (n c : Int) (S : LS) : Prop := (n = 3 ∨ n = 7 ∨ n = 4) ∧ ((c = 1 ∧ ∃ S0 x, S = S1 S0 x ∧ Inv0 n S0 ∧ CInv n x) ∨ (c = 2 ∧ ∃ S0 x y, S = S2 S0 x y ∧ Inv0 n S0 ∧ CInv n x ∧ CInv n y))
section
variable {w : World} {scr : Addr × List Int} {r : Nat} {n m j : Int} {S : LS}
theorem deed_z {c : Nat} {zs : List Cx} {N : Nat} (hN : N ∈ [3, 7, 4]) (hz : Zs c zs) (hC : ∀ z ∈ zs, CInv N z) (I : Inv0 N S) : To w scr r N c S zs m j := by
  refine xe12 (drN (T := S) (q := 9) (by decide)) fun a hw ba => ?_
  refine xe12 (drN (T := nxk S 1) (q := c) hz.pos) fun k hc bk => ?_
  have hk : k < c := by lia
  rcases (by lia : a = 0 ∨ a = 1 ∨ a = 2 ∨ a = 3 ∨ a = 4 ∨ a = 5 ∨ a = 6 ∨ a = 7 ∨ a = 8) with rfl | rfl | rfl | rfl | rfl | rfl | rfl | rfl | rfl
  · exact dclk hz hC I (a := 0) (by decide) hw
  · exact dclk hz hC I (a := 1) (by decide) hw
  · exact dtik hz hC I hw
  · exact dwro hN hz hC I hw
  · exact drnk hN hz hC I hw
  · exact dlet hN hz hC I hk hc hw
  · exact dlin hN hz hC I hw
  · exact dcla hN hz hC I hk hc hw
  · exact ddon hN hz hC I hk hc hw
theorem LapOk.deed {c : Int} (h : LapOk n c S) : ∃ S', DeedTo w scr r n c S m j S' ∧ LapOk n c S' := by
  refine xa2 (h) fun hn h => ?_
  obtain ⟨N, rfl, hN⟩ : ∃ N : Nat, n = N ∧ N ∈ [3, 7, 4] := by
    rcases hn with rfl | rfl | rfl
    · exact ⟨3, rfl, by decide⟩
    · exact ⟨7, rfl, by decide⟩
    · exact ⟨4, rfl, by decide⟩
  rcases h with ⟨rfl, S0, x, rfl, I, hx⟩ | ⟨rfl, S0, x, y, rfl, I, hx, hy⟩
  · refine xe24 (deed_z (w := w) (scr := scr) (r := r) (m := m) (j := j) (c := 1) (zs := [x]) hN (.inl ⟨rfl, x, rfl⟩) (List.forall_mem_cons.mpr ⟨hx, fun _ h => nomatch h⟩) I) fun S' zs' h1 h2 h3 h4 => ?_
    rcases h3 with ⟨_, x', rfl⟩ | ⟨h, _⟩
    · exact ⟨_, h1, hn, .inl ⟨rfl, S', x', rfl, h2, h4 _ (.head _)⟩⟩
    · exact absurd h (by decide)
  · refine xe24 (deed_z (w := w) (scr := scr) (r := r) (m := m) (j := j) (c := 2) (zs := [x, y]) hN (.inr ⟨rfl, x, y, rfl⟩) (List.forall_mem_cons.mpr ⟨hx, List.forall_mem_cons.mpr ⟨hy, fun _ h => nomatch h⟩⟩) I) fun S' zs' h1 h2 h3 h4 => ?_
    rcases h3 with ⟨h, _⟩ | ⟨_, x', y', rfl⟩
    · exact absurd h (by decide)
    · exact ⟨_, h1, hn, .inr ⟨rfl, S', x', y', rfl, h2, h4 _ (.head _), h4 _ (.tail _ (.head _))⟩⟩
theorem LapOk.alike {c : Int} (h : LapOk n c S) : AlikeTo w scr r n c S m j := by
  obtain ⟨hn, ⟨rfl, S0, x, rfl, I, hx⟩ | ⟨rfl, S0, x, y, rfl, I, hx, hy⟩⟩ := h
  · exact dali_1 (by lia) I hx
  · exact dali_2 (by lia) I hx hy
end
end Mine
end
-- M91
section
open PySem PySem.W PyProof.Rows PySem.Calls PySem.Spec
set_option Elab.async false
set_option linter.all false
namespace Mine
set_option maxRecDepth 100000
section
variable {w : World} {p : Program} {loose : List Str} {mean : ExcName → Option Value} {mg mb : Str → Option Value} {G0 : Heap} {lv : Nat} {st : Sta}
/-- the numbers may jump -/
theorem RelX.bmp {a : Act} {φ : Nat → Addr} {F : Frm} {H : Hp} {s : Shared} (R : RelX w a φ F H s) (k : Nat) : RelX w a φ F ⟨H.cells, H.next + k⟩ s := by
  refine xe3 (R) fun g m news r => ?_
  have x : Ext φ H.next φ (H.next + k) := ⟨Nat.le_add_right _ _, fun _ _ => rfl⟩
  refine ⟨g, m, news, ⟨r.fr, r.nw, r.lr.bmp k, fun c y v hc e => ?_, r.cl.mono fun _ _ h => h.ext x, r.turn, r.same⟩⟩
  refine xe12 (r.loc c y v hc e) fun u h1 h2 => ?_
  exact ⟨u, h1, h2.ext x⟩
theorem PS.gds {a : Act} {φ : Nat → Addr} {n : Nat} {r : RS} {Q : Flow → Shared → Prop} {E : Value → Shared → Prop} : ∀ {gs : List Prop}, (∀ q ∈ gs, q) → PS w a φ n r Q E → PS w a φ n (gdsS gs r) Q E
  | [], _, h => h
  | q :: gs, hg, h => ⟨hg q (.head _), PS.gds (fun z hz => hg z (.tail _ hz)) h⟩
theorem PO.gds {a : Act} {φ : Nat → Addr} {n : Nat} {F : Frm} {α : Type} {x : α} {H : Hp} {K : α → (Nat → Addr) → Hp → Shared → Prop} {E : Value → Shared → Prop} : ∀ {gs : List Prop}, (∀ q ∈ gs, q) → PO w a φ n F (.ok x H) K E → PO w a φ n F (gs.foldr Res.guard (.ok x H)) K E
  | [], _, h => h
  | q :: gs, hg, h => ⟨hg q (.head _), PO.gds (fun z hz => hg z (.tail _ hz)) h⟩
/-- a block of statements, and what follows it -/
theorem block {f : Stmt → ST} (hS : ∀ s, SS w G0 lv st s (f s)) : ∀ {ss rest : List Stmt} {a : Act} {φ : Nat → Addr} {F : Frm} {H : Hp} {s : Shared} {Q : Flow → Shared → Prop} {E : Value → Shared → Prop}, a.Ok st lv G0 → RelX w a φ F H s → OwnE (model PR w) a.A (a.env st) E →
    PS w a φ H.next (stmtsD f ss F H) (fun fl s' => match fl with | .next => wpAny (model PR w) a.A (execs rest (a.env st)) Q E s' | fl => Q fl s') E → wpAny (model PR w) a.A (execs (ss ++ rest) (a.env st)) Q E s
  | [], rest, a, φ, F, H, s, Q, E, ok, R, hE, h => h φ s R .refl
  | t :: ss, rest, a, φ, F, H, s, Q, E, ok, R, hE, h =>
    wpAny_execs_cons (hS t a φ F H s _ E ok R hE (PS.bind (k := stmtsD f ss) h (fun φ1 F1 H1 s1 R1 h' => block hS (ss := ss) (rest := rest) ok R1 hE h') (fun u s' q => q)))
/-- a block that runs through -/
theorem block_nx {f : Stmt → ST} (hS : ∀ s, SS w G0 lv st s (f s)) {ss rest : List Stmt} {a : Act} {φ : Nat → Addr} {F F1 : Frm} {H H1 : Hp} {s : Shared} {Q : Flow → Shared → Prop} {E : Value → Shared → Prop} {gs : List Prop} (ok : a.Ok st lv G0) (R : RelX w a φ F H s) (hE : OwnE (model PR w) a.A (a.env st) E)
    (e : stmtsD f ss F H = gdsS gs (.nx F1 H1)) (hg : ∀ q ∈ gs, q) (k : ∀ φ' s', RelX w a φ' F1 H1 s' → wpAny (model PR w) a.A (execs rest (a.env st)) Q E s') : wpAny (model PR w) a.A (execs (ss ++ rest) (a.env st)) Q E s := by
  refine block hS ok R hE ?_
  rw [e]
  exact PS.gds hg fun φ' s' R' _ => k φ' s' R'
/-- a test that leads from one canonical state to another, its guards held -/
theorem WB.ofG {e : Expr} {D : TX} (h : SB w G0 lv st e D) {keep : Nat → Prop} {F : Frm} {H H1 : Hp} {k : Nat} {gs : List Prop} {b : Bool} {F' : Frm} {H' : Hp} (q : D F ⟨H.cells, H.next + k⟩ = gs.foldr Res.guard (.ok b H1)) (hg : ∀ q ∈ gs, q) {ρ : Nat → Nat} (dn : Down2 ρ F' H' F H1) (hk : ∀ i, keep i → ρ i = i ∧ i < H.next) : WB w G0 lv st e keep F H b F' H' := fun a φ s Q E ok R c => by
  refine h a φ F _ s Q E ok (R.bmp k) ?_
  rw [q]
  exact PO.gds hg fun φ' s' R' X => c _ s' (dn.rel R') fun i hi => by
    show φ' (ρ i) = _
    rw [(hk i hi).1]
    exact X.2 i (Nat.lt_of_lt_of_le (hk i hi).2 (Nat.le_add_right _ _))
/-- first back to another numbering -/
theorem WS.down {body : List Stmt} {keep : Nat → Prop} {F F0 F' : Frm} {H H0 H' : Hp} {ρ : Nat → Nat} (dn : Down2 ρ F0 H0 F H) (h : WS w G0 lv st body keep F0 H0 F' H') (hk : ∀ i, keep i → ρ i = i) : WS w G0 lv st body keep F H F' H' := fun a φ s Q E ok hE R c =>
  h a _ s Q E ok hE (dn.rel R) fun φ' s' R' k' => c φ' s' R' fun i hi => by rw [k' i hi]; exact congrArg φ (hk i hi)
end
end Mine
end
-- M92
section
open PySem PySem.W PyProof.Rows PySem.Calls PySem.Spec
set_option Elab.async false
set_option linter.all false
namespace Mine
set_option maxRecDepth 100000
-- the law's own text
noncomputable abbrev tbL : Tab := some (658, 656, 3)
noncomputable def tcL (w : World) : Tc := ⟨(fd w 659).scope, true, false, tbL⟩
noncomputable def lawB (w : World) : List Stmt := bd w 659
noncomputable def forIt : Stmt → PySem.Expr
  | .For _ it _ _ _ => it
  | _ => default
noncomputable def forTg : Stmt → PySem.Expr
  | .For t _ _ _ _ => t
  | _ => default
noncomputable def forBd : Stmt → List Stmt
  | .For _ _ b _ _ => b
  | _ => []
noncomputable def forPs : Stmt → Pos
  | .For _ _ _ _ p => p
  | _ => default
noncomputable def nmPs : PySem.Expr → Pos
  | .Name _ p => p
  | _ => default
noncomputable def ifT : Stmt → PySem.Expr
  | .If t _ _ _ => t
  | _ => default
noncomputable def ifB0 : Stmt → List Stmt
  | .If _ b _ _ => b
  | _ => []
noncomputable def ifPs : Stmt → Pos
  | .If _ _ _ p => p
  | _ => default
noncomputable def orEs : PySem.Expr → List PySem.Expr
  | .BoolOp _ es _ => es
  | _ => []
noncomputable def orPs : PySem.Expr → Pos
  | .BoolOp _ _ p => p
  | _ => default
noncomputable def forL (w : World) : Stmt := (lawB w).getD 9 default
noncomputable def ifL (w : World) : Stmt := (forBd (forL w)).getD 0 default
noncomputable def tst1 (w : World) : PySem.Expr := (orEs (ifT (ifL w))).getD 0 default
noncomputable def tst2 (w : World) : PySem.Expr := (orEs (ifT (ifL w))).getD 1 default
section
variable (w : World) (K : Kx)
theorem lap_body : forBd (forL w) = [.If (.BoolOp .Or [tst1 w, tst2 w] (orPs (ifT (ifL w)))) (ifB0 (ifL w)) [] (ifPs (ifL w))] := by kernel_rfl
theorem tst1_D : (tr TT K 40).B (tcL w) (tst1 w) = bNot (bP (eCall (aC (getV 11) (aC (getV 12) (aC (getC 98) (aC (getC 66) (aC (getV 65) (aN)))))) (K.call true 649))) := by kernel_rfl
theorem tst2_D : (tr TT K 40).B (tcL w) (tst2 w) = bNot (bP (eCall (aC (getV 12) (aC (getC 98) (aC (getC 66) (aC (getV 65) (aN))))) (K.call true 654))) := by kernel_rfl
variable (scr : Addr × List Int) (o : Orc) (r : Nat)
theorem c_649 : (KO w scr o (r + 11)).call true 649 = fnK w TT (KO w scr o (r + 10)) true (649, 5, none) := by kernel_rfl
theorem c_654 : (KO w scr o (r + 11)).call true 654 = fnK w TT (KO w scr o (r + 10)) true (654, 4, none) := by kernel_rfl
end
/-- the law's frame -/
noncomputable abbrev Fcan (sa : Addr) : Frm := ⟨[(81, .glob sa), (11, .ref 9), (65, .ref 10), (49, .ref 17), (12, .ref 27)], [(98, 7), (89, 6), (66, 5), (20, 4)]⟩
theorem Fcan_loc {sa : Addr} {c : Nat} {v : AV} (h : (Fcan sa).loc.lookup c = some v) : (c, v) ∈ (Fcan sa).loc := by
  have go : ∀ {l : List (Nat × AV)}, l.lookup c = some v → (c, v) ∈ l := by
    intro l
    induction l with
    | nil => intro e; exact no_some9 e
    | cons q l ih =>
      intro e
      obtain ⟨a, b⟩ := q
      rw [List.lookup_cons] at e
      by_cases z : c = a
      · rw [z, beq_self_eq_true] at e; obtain rfl := Option.some.inj e; rw [z]; exact .head _
      · rw [show (c == a) = false from by simpa using z] at e; exact .tail _ (ih e)
  exact go h
theorem Down2.can {sa : Addr} {H H' : Hp} {ρ : Nat → Nat} (d : Down ρ H H') (f : fixed ρ) (hn : 28 ≤ H.next) : Down2 ρ (Fcan sa) H (Fcan sa) H' := by
  have r4 : ρ 4 = 4 := f 4 (by decide) (by decide) (by decide) (by decide)
  have r5 : ρ 5 = 5 := f 5 (by decide) (by decide) (by decide) (by decide)
  have r6 : ρ 6 = 6 := f 6 (by decide) (by decide) (by decide) (by decide)
  have r7 : ρ 7 = 7 := f 7 (by decide) (by decide) (by decide) (by decide)
  refine ⟨d, fun c v h => ?_, ?_, fun q hq => ?_⟩
  · have hv : renV ρ v = v ∧ vlt H.next v := by
      have := Fcan_loc h
      simp only [List.mem_cons, Prod.mk.injEq, List.not_mem_nil, or_false] at this
      rcases this with ⟨_, rfl⟩ | ⟨_, rfl⟩ | ⟨_, rfl⟩ | ⟨_, rfl⟩ | ⟨_, rfl⟩
      · exact ⟨rfl, trivial⟩
      · exact ⟨congrArg AV.ref (f 9 (by decide) (by decide) (by decide) (by decide)), by show 9 < H.next; lia⟩
      · exact ⟨congrArg AV.ref (f 10 (by decide) (by decide) (by decide) (by decide)), by show 10 < H.next; lia⟩
      · exact ⟨congrArg AV.ref (f 17 (by decide) (by decide) (by decide) (by decide)), by show 17 < H.next; lia⟩
      · exact ⟨congrArg AV.ref (f 27 (by decide) (by decide) (by decide) (by decide)), by show 27 < H.next; lia⟩
    exact ⟨by rw [hv.1]; exact h, hv.2⟩
  · show [(98, 7), (89, 6), (66, 5), (20, 4)] = [(98, ρ 7), (89, ρ 6), (66, ρ 5), (20, ρ 4)]
    rw [r4, r5, r6, r7]
  · simp only [List.mem_cons, List.not_mem_nil, or_false] at hq
    rcases hq with rfl | rfl | rfl | rfl <;> (dsimp only; lia)
theorem gds_bind {α β : Type} {x : α} {H : Hp} {f : α → Hp → Res β} : ∀ gs : List Prop, (gs.foldr Res.guard (.ok x H)).bind f = gs.foldr Res.guard (f x H)
  | [] => rfl
  | q :: gs => congrArg (Res.guard q) (gds_bind gs)
theorem not_ok {A : AX} {D : List AV → Hp → Res AV} {F : Frm} {H H1 : Hp} {xs : List AV} {gs : List Prop} (h1 : A F H = .ok xs H) (h2 : D xs H = gds gs (.ok (.bool true) H1)) : bNot (bP (eCall A D)) F H = gs.foldr Res.guard (.ok false H1) := by
  unfold bNot bP eCall
  rw [h1]
  show ((D xs H).bind tv).bind _ = _
  rw [h2]
  unfold gds
  rw [gds_bind]
  show (List.foldr Res.guard (Res.ok true H1) gs).bind _ = _
  rw [gds_bind]; rfl
section
variable {w : World} {p : Program} {loose : List Str} {mean : ExcName → Option Value} {mg mb : Str → Option Value} {G0 : Heap} {st : Sta}
theorem lap_ws (GD : Gd w p loose mean mg mb G0) {scr : Addr × List Int} (hs : ScrOk G0 scr) {r : Nat} (hst : StOk G0 st (tcL w)) {n c m j : Int} {S : LS} (h : LapOk n c S) : ∃ S', LapOk n c S' ∧ WS w G0 (4 * (r + 11) + 1) st (forBd (forL w)) (· = 41) (Fcan scr.1) (hp n c S m j) (Fcan scr.1) (hp n c S' m j) := by
  refine hide fun q9 b9 => ?_
  obtain ⟨S', ⟨o, l, gs, cs, k, ρ, d1, d2, d3, d4⟩, h'⟩ := h.deed (w := w) (scr := scr) (r := r) (m := m) (j := j)
  obtain ⟨o2, l2, gs2, cs2, k2, ρ2, a1, a2, a3, a4⟩ := (h'.alike (w := w) (scr := scr) (r := r) (m := m) (j := j)).ex
  refine b9 ?_
  refine ⟨S', h', ?_⟩
  rw [lap_body]
  refine WS.if_false (WB.or2 (F1 := Fcan scr.1) (H1 := hp n c S' m j) ?_ ?_)
  · have hB := (tr_ok GD (TT_ok w) (KO_ok GD hs o (r + 11)) 40).B st (tcL w) (tst1 w) hst
    rw [tst1_D, c_649] at hB
    have e : (hp n c S m j).next + cB l = cB l + 42 := Nat.add_comm 42 _
    have q : bNot (bP (eCall (aC (getV 11) (aC (getV 12) (aC (getC 98) (aC (getC 66) (aC (getV 65) (aN)))))) (fnK w TT (KO w scr o (r + 10)) true (649, 5, none)))) (Fcan scr.1) ⟨(hp n c S m j).cells, (hp n c S m j).next + cB l⟩ = gs.foldr Res.guard (.ok false ⟨cs, k⟩) :=
      not_ok (xs := [.ref 9, .ref 27, .ref 20, .ref 22, .ref 10]) (by kernel_rfl) (by rw [e]; exact d1)
    exact WB.ofG hB q d2 (Down2.can d3 d4 (show 28 ≤ 42 by decide)) (fun i hi => by subst hi; exact ⟨d4 41 (by decide) (by decide) (by decide) (by decide), show 41 < 42 by decide⟩)
  · have hB := (tr_ok GD (TT_ok w) (KO_ok GD hs o2 (r + 11)) 40).B st (tcL w) (tst2 w) hst
    rw [tst2_D, c_654] at hB
    have e : (hp n c S' m j).next + cB l2 = cB l2 + 42 := Nat.add_comm 42 _
    have dn : Down2 ρ2 (Fcan scr.1) (hp n c S' m j) (Fcan scr.1) ⟨cs2, k2⟩ := Down2.can a3 a4 (show 28 ≤ 42 by decide)
    have hk : ∀ i, i = 41 → ρ2 i = i ∧ i < (hp n c S' m j).next := fun i hi => by subst hi; exact ⟨a4 41 (by decide) (by decide) (by decide) (by decide), show 41 < 42 by decide⟩
    refine @WB.ofG w G0 (4 * (r + 11) + 1) st (tst2 w) _ hB (fun i => i = 41) (Fcan scr.1) (hp n c S' m j) ⟨cs2, k2⟩ (cB l2) gs2 false (Fcan scr.1) (hp n c S' m j) ?_ a2 ρ2 dn hk
    refine not_ok (xs := [.ref 27, .ref 20, .ref 22, .ref 10]) (by kernel_rfl) ?_
    rw [e]; exact a1
end
end Mine
end
-- M93
section
open PySem PySem.W PyProof.Rows PySem.Calls PySem.Spec
set_option Elab.async false
set_option linter.all false
namespace Mine
set_option maxRecDepth 100000
/-- the canonical heap's form -/
structure HW (cs : List (Nat × AO)) : Prop where
  nd : (cs.map (·.1)).Nodup
  lt : ∀ p ∈ cs, p.1 < 42
  ol : ∀ p ∈ cs, olt 42 p.2
theorem LapOk.hw {n c m j : Int} {S : LS} (h : LapOk n c S) : HW (hp n c S m j).cells := by
  obtain ⟨hn, ⟨rfl, S0, x, rfl, I, hx⟩ | ⟨rfl, S0, x, y, rfl, I, hx, hy⟩⟩ := h
  · exact ⟨nd_1, lt_1, olt_1 I.li hx.ai⟩
  · exact ⟨nd_2, lt_2, olt_2 I.li hx.ai hy.ai⟩
theorem HW.self {cs : List (Nat × AO)} (h : HW cs) : Down (fun i => i) ⟨cs, 42⟩ ⟨cs, 42⟩ :=
  ⟨fun p hp => by rw [renO_id]; exact lookup_nd h.nd hp, h.ol, h.lt, fun _ _ _ _ e => e, h.nd⟩
theorem fix_id : fixed fun i => i := fun _ _ _ _ _ => rfl
theorem hp_mem {n c m j : Int} {S : LS} {p : Nat × AO} (h : p ∈ (hp n c S m j).cells) : p ∈ hpc n c S ∨ p = (40, .range 0 m) ∨ p = (41, .riter j (m - j)) := by
  rcases List.mem_append.mp h with h | h
  · exact .inl h
  · simp only [List.mem_cons, List.not_mem_nil, or_false] at h
    exact .inr h
theorem hpc_ids {n c m j : Int} {S : LS} (h : HW (hp n c S m j).cells) : (∀ p ∈ hpc n c S, p.1 < 40) ∧ ((hpc n c S).map (·.1)).Nodup := by
  have nd := h.nd
  rw [show (hp n c S m j).cells = hpc n c S ++ [(40, .range 0 m), (41, .riter j (m - j))] from rfl, List.map_append, List.nodup_append] at nd
  refine ⟨fun p hp' => ?_, nd.1⟩
  have h1 := h.lt p (List.mem_append_left _ hp')
  have h2 := nd.2.2 p.1 (List.mem_map_of_mem hp') 40 (by simp)
  have h3 := nd.2.2 p.1 (List.mem_map_of_mem hp') 41 (by simp)
  lia
theorem riter_get {n c m j : Int} {S : LS} {F F' : Frm} {H : Hp} (d : Down2 (fun i => i) F (hp n c S m j) F' H) : H.get 41 = some (.riter j (m - j)) := by
  have := d.d.get (41, .riter j (m - j)) (List.mem_append_right _ (.tail _ (.head _)))
  rwa [renO_id] at this
theorem can_set {n c m j : Int} {S : LS} {F' : Frm} {sa : Addr} {H : Hp} (hw : HW (hp n c S m j).cells) (hw' : HW (hp n c S m (j + 1)).cells) (d : Down2 (fun i => i) (Fcan sa) (hp n c S m j) F' H) {v : AV} : Down2 (fun i => i) (Fcan sa) (hp n c S m (j + 1)) { F' with loc := putS 42 v F'.loc } (H.set 41 (.riter (j + 1) (m - j - 1))) := by
  have g41 := riter_get d
  have ids := (hpc_ids hw).1
  refine ⟨⟨fun p hp' => ?_, hw'.ol, hw'.lt, fun _ _ _ _ e => e, hw'.nd⟩, fun c' v' h' => ?_, d.cl, d.clt⟩
  · rw [renO_id]
    rcases hp_mem hp' with h | rfl | rfl
    · have := ids p h
      rw [set_get g41, if_neg (by lia)]
      have := d.d.get p (List.mem_append_left _ h)
      rwa [renO_id] at this
    · rw [set_get g41, if_neg (show ¬ (40 : Nat) = 41 by decide)]
      have := d.d.get (40, .range 0 m) (List.mem_append_right _ (.head _))
      rwa [renO_id] at this
    · rw [set_get g41, if_pos rfl]
      rw [show m - j - 1 = m - (j + 1) from by lia]
  · refine xa2 (d.loc c' v' h') fun h1 h2 => ?_
    refine ⟨?_, h2⟩
    show (putS 42 v F'.loc).lookup c' = _
    rw [putS_lookup, if_neg]
    · exact h1
    · intro e
      subst e
      cases h'
theorem can_end {n c m j : Int} {S : LS} {F' : Frm} {sa : Addr} {H : Hp} (hw : HW (hp n c S m j).cells) (d : Down2 (fun i => i) (Fcan sa) (hp n c S m j) F' H) : Down2 (fun i => i) (Fcan sa) ⟨hpc n c S, 42⟩ F' (H.del 41) := by
  have ids := hpc_ids hw
  refine ⟨⟨fun p hp' => ?_, fun p hp' => hw.ol p (List.mem_append_left _ hp'), fun p hp' => hw.lt p (List.mem_append_left _ hp'), fun _ _ _ _ e => e, ids.2⟩, d.loc, d.cl, d.clt⟩
  have h1 := ids.1 p hp'
  rw [del_get (by lia)]
  exact d.d.get p (List.mem_append_left _ hp')
section
variable {w : World} {p : Program} {loose : List Str} {mean : ExcName → Option Value} {mg mb : Str → Option Value} {G0 : Heap} {st : Sta}
theorem forIt_D (K : Kx) : (tr TT K 40).E (tcL w) (forIt (forL w)) = eCall (aC (eCall (aC (eK (.int 20)) (aC (eBin (binD .Add) (eK (.int 6)) (eBin (binD .FloorDiv) (eCall (aC (getV 81) (aN)) (altN fLen (lenG K.scr))) (eK (.int 3)))) (aN))) (altN fMin fMinP)) (aN)) fRange := by kernel_rfl
theorem lap_kn : kn ("lap" : Str) = true := by kernel_rfl
theorem lap_nc : nc ("lap" : Str) = 42 := by kernel_rfl
theorem lap_loc : (fd w 659).scope.names.lookup ("lap" : Str) = some .local := by kernel_rfl
noncomputable def laps (scr : Addr × List Int) : Int := if 6 + (scr.2.length : Int) / 3 < 20 then 6 + (scr.2.length : Int) / 3 else 20
theorem laps_b (scr : Addr × List Int) : 0 < laps scr ∧ laps scr ≤ 20 := by
  unfold laps; split <;> lia
theorem forIt_ok {scr : Addr × List Int} {o : Orc} {r : Nat} {H : Hp} : (tr TT (KO w scr o (r + 11)) 40).E (tcL w) (forIt (forL w)) (Fcan scr.1) H = .ok (.ref H.next) (H.push (.range 0 (laps scr))) := by
  rw [forIt_D]
  have e1 : eCall (aC (getV 81) (aN)) (altN fLen (lenG (KO w scr o (r + 11)).scr)) (Fcan scr.1) H = .ok (.int (scr.2.length : Int)) H := by
    refine eCall_ok (aC_ok (x := .glob scr.1) rfl aN_ok) ?_
    show lenG scr [.glob scr.1] H = _
    unfold lenG; dsimp only; rw [if_pos rfl]
  have e2 : eBin (binD .FloorDiv) (eCall (aC (getV 81) (aN)) (altN fLen (lenG (KO w scr o (r + 11)).scr))) (eK (.int 3)) (Fcan scr.1) H = .ok (.int ((scr.2.length : Int) / 3)) H := eBin_ok e1 rfl rfl
  refine eCall_ok (xs := [.int (laps scr)]) (aC_ok (eCall_ok (xs := [.int 20, .int (6 + (scr.2.length : Int) / 3)]) (aC_ok rfl (aC_ok (eBin_ok rfl e2 rfl) aN_ok)) rfl) aN_ok) rfl
theorem loop_ok (GD : Gd w p loose mean mg mb G0) {scr : Addr × List Int} (hs : ScrOk G0 scr) {r : Nat} (hst : StOk G0 st (tcL w)) {n c : Int} {S : LS} (h : LapOk n c S) {a : Act} {φ : Nat → Addr} {s : Shared} {Q : Flow → Shared → Prop} {E : Value → Shared → Prop} (ok : a.Ok st (4 * (r + 11) + 1) G0) (R : RelX w a φ (Fcan scr.1) ⟨hpc n c S, 40⟩ s)
    (fin : ∀ φ s S', LapOk n c S' → RelX w a φ (Fcan scr.1) ⟨hpc n c S', 42⟩ s → Q .next s) : wpAny (model PR w) a.A (exec (.For (.Name "lap" (nmPs (forTg (forL w)))) (forIt (forL w)) (forBd (forL w)) [] (forPs (forL w))) (a.env st)) Q E s := by
  have hlv : st.nh = true := hst.nh
  have hb := laps_b scr
  have hE := (tr_ok GD (TT_ok w) (KO_ok GD hs (orc0 []) (r + 11)) 40).E st (tcL w) (forIt (forL w)) hst
  have hN : SN w G0 (4 * (r + 11) + 1) st ("lap" : Str) (stL 42) := by
    have := N_loc (w := w) (G0 := G0) (lv := 4 * (r + 11) + 1) (st := st) (kn_KN lap_kn) (by rw [hst.sc]; exact lap_loc (w := w))
    rw [lap_nc] at this; exact this
  have hw0 := h.hw (m := laps scr) (j := 0)
  have ids := hpc_ids hw0
  refine for_inv (f := stL 42) hlv hN hE (fun a x => set_fold (by kernel_rfl) _ _) (fun _ _ => rfl) ok R (v := .ref 40) (H1 := ⟨(40, .range 0 (laps scr)) :: hpc n c S, 41⟩) (H2 := ⟨(41, .riter 0 (laps scr - 0)) :: (40, .range 0 (laps scr)) :: hpc n c S, 42⟩) (i := 41) forIt_ok ?_
    (I := fun k F H => ∃ S j, LapOk n c S ∧ 0 ≤ j ∧ (laps scr - j).toNat < k ∧ 42 ≤ H.next ∧ Down2 (fun i => i) (Fcan scr.1) (hp n c S (laps scr) j) F H)
    (Fin := fun F H => ∃ S, LapOk n c S ∧ Down2 (fun i => i) (Fcan scr.1) ⟨hpc n c S, 42⟩ F H) ?_ (fun F H ⟨_, _, _, _, q, _⟩ => Nat.not_lt_zero _ q) ?_ (fun φ F H s R ⟨S', h', d⟩ => fin _ s S' h' (d.rel R))
  · have hr : Hp.range ⟨(40, .range 0 (laps scr)) :: hpc n c S, 41⟩ 40 = some (0, laps scr) := by
      unfold Hp.range
      rw [show Hp.get ⟨(40, .range 0 (laps scr)) :: hpc n c S, 41⟩ 40 = some (.range 0 (laps scr)) from by show getO _ (_ :: _) = _; rw [getO_cons, beq_self_eq_true]]; rfl
    unfold iterD; dsimp only; rw [hr]; dsimp only
    rw [if_pos ⟨⟨by decide, by decide⟩, by lia, by lia⟩, if_pos hb.1]; rfl
  · refine ⟨S, 0, h, by decide, by lia, Nat.le_refl _, Down2.can ⟨fun p hp' => ?_, hw0.ol, hw0.lt, fun _ _ _ _ e => e, hw0.nd⟩ fix_id (show 28 ≤ 42 by decide)⟩
    rw [renO_id]
    show getO p.1 (_ :: _ :: _) = _
    rcases hp_mem hp' with q | rfl | rfl
    · have := ids.1 p q
      rw [getO_cons, show (p.1 == 41) = false from by simp; lia, getO_cons, show (p.1 == 40) = false from by simp; lia]
      exact lookup_nd ids.2 q
    · rw [getO_cons, show ((40 : Nat) == 41) = false from rfl, getO_cons]; rfl
    · rw [getO_cons]; rfl
  · rintro k F H ⟨S1', j, h1, hj, hk, hn, d⟩
    have g41 := riter_get d
    refine ⟨by lia, ?_⟩
    by_cases hc : laps scr - j ≤ 0
    · have nd : nextD 41 H = some (none, H.del 41) := by
        unfold nextD; rw [g41]
        show (if laps scr - j ≤ 0 then _ else _) = _
        rw [if_pos hc]
      rw [nd]
      exact ⟨S1', h1, can_end h1.hw d⟩
    · have nd : nextD 41 H = some (some (.int j), H.set 41 (.riter (j + 1) (laps scr - j - 1))) := by
        unfold nextD; rw [g41]
        show (if laps scr - j ≤ 0 then _ else _) = _
        rw [if_neg hc]
      rw [nd]
      refine xe12 (lap_ws GD hs (r := r) hst (m := laps scr) (j := j + 1) h1) fun S2' h2 hws => ?_
      exact ⟨({ F with loc := putS 42 (.int j) F.loc }, H.set 41 (.riter (j + 1) (laps scr - j - 1))), Fcan scr.1, hp n c S2' (laps scr) (j + 1), rfl, Nat.le_refl _, WS.down (can_set h1.hw h1.hw d) hws (fun i _ => rfl), S2', j + 1, h2, by lia, by lia, Nat.le_refl _, Down2.can h2.hw.self fix_id (show 28 ≤ 42 by decide)⟩
end
end Mine
end
-- M94
section
open PySem PySem.W PyProof.Rows PySem.Calls PySem.Spec
set_option Elab.async false
set_option linter.all false
namespace Mine
set_option maxRecDepth 100000
noncomputable def nxOf (r : RS) : Option (List Prop × Frm × Hp) := RS.rec (motive := fun _ => Option (List Prop × Frm × Hp)) (fun F H => some ([], F, H)) (fun _ _ _ => none) (fun _ _ _ => none) none (fun p _ ih => ih.map fun q => (p :: q.1, q.2)) r
theorem nxOf_some {r : RS} {l : List Prop} {F : Frm} {H : Hp} (h : nxOf r = some (l, F, H)) : r = gdsS l (.nx F H) := by
  induction r generalizing l with
  | nx F' H' => cases h; rfl
  | ret v F H => cases h
  | exc e F H => cases h
  | stuck => cases h
  | guard p r ih =>
    obtain ⟨q, h1, h2⟩ := Option.map_eq_some_iff.mp (show (nxOf r).map (fun q => (p :: q.1, q.2)) = _ from h)
    obtain ⟨l', F', H'⟩ := q
    cases h2
    rw [ih h1]; rfl
noncomputable def blk (w : World) (K : Kx) (a b : Nat) : ST := stmtsD ((tr TT K 40).S (tcL w)) (((lawB w).drop a).take b)
noncomputable def zeros : Nat → List Int
  | 0 => []
  | k + 1 => 0 :: zeros k
noncomputable def base (n : Nat) (it : List AV) : LS := ⟨it, 0, 0, 18446744073709551615, 0, zeros (n + 1), [], [], [], [], 0, 18446744073709551615, 0, zeros (n + 1), [], [], 0, 0, 0, 0, []⟩
noncomputable def cx0 : Cx := ⟨[], 0, 0, 0⟩
noncomputable def rtab (B : Nat) (t : List (Nat × Nat)) (i : Nat) : Nat := match t.lookup i with | some k => B + k | none => i
noncomputable def fr8 (ρ : Nat → Nat) (p : Nat × AO) : AO := if p.1 = 8 then p.2 else renO ρ p.2
noncomputable abbrev tabL : List (Nat × AO) := [(0, .tab 0 637), (1, .tab 1 632), (2, .tab 2 594), (3, .tab 3 656)]
noncomputable abbrev Fl0 (sa : Addr) : Frm := ⟨[(81, .glob sa)], [(98, 7), (89, 6), (66, 5), (20, 4)]⟩
noncomputable abbrev Fl1 (sa : Addr) : Frm := ⟨[(81, .glob sa), (11, .ref 9)], [(98, 7), (89, 6), (66, 5), (20, 4)]⟩
noncomputable abbrev Hl0 : Hp := ⟨[(7, .cell none), (6, .cell none), (5, .cell none), (4, .cell none)] ++ tabL, 8⟩
noncomputable abbrev Hl1 (it : List AV) (k : Nat) : Hp := ⟨[(9, .list [.ref 8, .int 0]), (8, .list it), (7, .cell none), (6, .cell none), (5, .cell none), (4, .cell none)] ++ tabL, k + 10⟩
section
variable (w : World) (sa : Addr) (sl : List Int) {it : List AV} (r : Nat)
noncomputable def rt1 : List (Nat × Nat) := [(10, 2013), (11, 2015), (12, 2016), (13, 2017), (14, 2020), (15, 2023), (16, 2025), (17, 2026), (18, 2027), (19, 2028), (20, 2029), (21, 2030), (22, 2031), (23, 2033), (24, 2035), (25, 2037), (26, 2039), (27, 2040), (28, 2041), (29, 2042), (30, 2043), (31, 2045), (32, 2046), (33, 2021)]
noncomputable def rt2 : List (Nat × Nat) := [(10, 2013), (11, 2015), (12, 2016), (13, 2017), (14, 2020), (15, 2024), (16, 2026), (17, 2027), (18, 2028), (19, 2029), (20, 2030), (21, 2031), (22, 2032), (23, 2034), (24, 2036), (25, 2038), (26, 2040), (27, 2041), (28, 2042), (29, 2043), (30, 2044), (31, 2046), (32, 2047), (33, 2021), (34, 2022)]
theorem pre_0_0 : (nxOf (blk w (KO w (sa, sl) (orc0 []) (r + 11)) 1 8 (Fl1 sa) (Hl1 it (cB [0, 0])))).map (fun q => (q.1, q.2.1, each (fun p => getO (rtab (cB [0, 0]) rt2 p.1) q.2.2.cells) (hpc 3 2 (S2 (base 3 it.tail.tail) cx0 cx0)))) = some ([MoG it 3 0, MoG it.tail 2 0], ⟨[(81, .glob sa), (11, .ref 9), (65, .ref ((cB [0, 0]) + 2013)), (49, .ref ((cB [0, 0]) + 2027)), (12, .ref ((cB [0, 0]) + 2041))], [(98, 7), (89, 6), (66, 5), (20, 4)]⟩, (hpc 3 2 (S2 (base 3 it.tail.tail) cx0 cx0)).map fun p => some (fr8 (rtab (cB [0, 0]) rt2) p)) := by kernel_rfl
theorem pre_0_1 : (nxOf (blk w (KO w (sa, sl) (orc0 []) (r + 11)) 1 8 (Fl1 sa) (Hl1 it (cB [0, 1])))).map (fun q => (q.1, q.2.1, each (fun p => getO (rtab (cB [0, 1]) rt1 p.1) q.2.2.cells) (hpc 3 1 (S1 (base 3 it.tail.tail) cx0)))) = some ([MoG it 3 0, MoG it.tail 2 1], ⟨[(81, .glob sa), (11, .ref 9), (65, .ref ((cB [0, 1]) + 2013)), (49, .ref ((cB [0, 1]) + 2026)), (12, .ref ((cB [0, 1]) + 2040))], [(98, 7), (89, 6), (66, 5), (20, 4)]⟩, (hpc 3 1 (S1 (base 3 it.tail.tail) cx0)).map fun p => some (fr8 (rtab (cB [0, 1]) rt1) p)) := by kernel_rfl
theorem pre_1_0 : (nxOf (blk w (KO w (sa, sl) (orc0 []) (r + 11)) 1 8 (Fl1 sa) (Hl1 it (cB [1, 0])))).map (fun q => (q.1, q.2.1, each (fun p => getO (rtab (cB [1, 0]) rt2 p.1) q.2.2.cells) (hpc 7 2 (S2 (base 7 it.tail.tail) cx0 cx0)))) = some ([MoG it 3 1, MoG it.tail 2 0], ⟨[(81, .glob sa), (11, .ref 9), (65, .ref ((cB [1, 0]) + 2013)), (49, .ref ((cB [1, 0]) + 2027)), (12, .ref ((cB [1, 0]) + 2041))], [(98, 7), (89, 6), (66, 5), (20, 4)]⟩, (hpc 7 2 (S2 (base 7 it.tail.tail) cx0 cx0)).map fun p => some (fr8 (rtab (cB [1, 0]) rt2) p)) := by kernel_rfl
theorem pre_1_1 : (nxOf (blk w (KO w (sa, sl) (orc0 []) (r + 11)) 1 8 (Fl1 sa) (Hl1 it (cB [1, 1])))).map (fun q => (q.1, q.2.1, each (fun p => getO (rtab (cB [1, 1]) rt1 p.1) q.2.2.cells) (hpc 7 1 (S1 (base 7 it.tail.tail) cx0)))) = some ([MoG it 3 1, MoG it.tail 2 1], ⟨[(81, .glob sa), (11, .ref 9), (65, .ref ((cB [1, 1]) + 2013)), (49, .ref ((cB [1, 1]) + 2026)), (12, .ref ((cB [1, 1]) + 2040))], [(98, 7), (89, 6), (66, 5), (20, 4)]⟩, (hpc 7 1 (S1 (base 7 it.tail.tail) cx0)).map fun p => some (fr8 (rtab (cB [1, 1]) rt1) p)) := by kernel_rfl
theorem pre_2_0 : (nxOf (blk w (KO w (sa, sl) (orc0 []) (r + 11)) 1 8 (Fl1 sa) (Hl1 it (cB [2, 0])))).map (fun q => (q.1, q.2.1, each (fun p => getO (rtab (cB [2, 0]) rt2 p.1) q.2.2.cells) (hpc 4 2 (S2 (base 4 it.tail.tail) cx0 cx0)))) = some ([MoG it 3 2, MoG it.tail 2 0], ⟨[(81, .glob sa), (11, .ref 9), (65, .ref ((cB [2, 0]) + 2013)), (49, .ref ((cB [2, 0]) + 2027)), (12, .ref ((cB [2, 0]) + 2041))], [(98, 7), (89, 6), (66, 5), (20, 4)]⟩, (hpc 4 2 (S2 (base 4 it.tail.tail) cx0 cx0)).map fun p => some (fr8 (rtab (cB [2, 0]) rt2) p)) := by kernel_rfl
theorem pre_2_1 : (nxOf (blk w (KO w (sa, sl) (orc0 []) (r + 11)) 1 8 (Fl1 sa) (Hl1 it (cB [2, 1])))).map (fun q => (q.1, q.2.1, each (fun p => getO (rtab (cB [2, 1]) rt1 p.1) q.2.2.cells) (hpc 4 1 (S1 (base 4 it.tail.tail) cx0)))) = some ([MoG it 3 2, MoG it.tail 2 1], ⟨[(81, .glob sa), (11, .ref 9), (65, .ref ((cB [2, 1]) + 2013)), (49, .ref ((cB [2, 1]) + 2026)), (12, .ref ((cB [2, 1]) + 2040))], [(98, 7), (89, 6), (66, 5), (20, 4)]⟩, (hpc 4 1 (S1 (base 4 it.tail.tail) cx0)).map fun p => some (fr8 (rtab (cB [2, 1]) rt1) p)) := by kernel_rfl
end
end Mine
end
-- M95
section
open PySem PySem.W PyProof.Rows PySem.Calls PySem.Spec
set_option Elab.async false
set_option linter.all false
namespace Mine
set_option maxRecDepth 100000
section
variable {n m j : Int} {S : LS} {x y : Cx}
theorem olt40_1 (I : LI S) (hx : AInts x.lt) : ∀ p ∈ hpc n 1 (S1 S x), olt 40 p.2 := fa_cons ((show (_ : Nat) < 40 from by decide)) (fa_cons ((show (_ : Nat) < 40 from by decide)) (fa_cons ((show (_ : Nat) < 40 from by decide)) (fa_cons ((show (_ : Nat) < 40 from by decide)) (fa_cons ((fun u hu => by cases hu; exact trivial)) (fa_cons ((fun u hu => by cases hu; exact (by decide : (22 : Nat) < 40))) (fa_cons ((fun u hu => by cases hu; exact trivial)) (fa_cons ((fun u hu => by cases hu; exact (by decide : (20 : Nat) < 40))) (fa_cons (I.items.lt) (fa_cons ((vlt_cons (show (_ : Nat) < 40 from by decide) (vlt_cons trivial vlt_nil))) (fa_cons ((qlt_cons trivial (qlt_cons trivial (qlt_cons trivial (qlt_cons trivial (qlt_cons (show (_ : Nat) < 40 from by decide) (qlt_cons (show (12 : Nat) < 40 from by decide) (qlt_cons (show (13 : Nat) < 40 from by decide) (qlt_cons (show (_ : Nat) < 40 from by decide) (qlt_cons (show (_ : Nat) < 40 from by decide) qlt_nil)))))))))) (fa_cons ((AInts.of _).lt) (fa_cons (I.up.lt) (fa_cons (I.served.lt) (fa_cons ((vlt_cons (show (_ : Nat) < 40 from by decide) vlt_nil)) (fa_cons ((AInts.of _).lt) (fa_cons ((qlt_cons trivial (qlt_cons trivial (qlt_cons trivial (qlt_cons (show (_ : Nat) < 40 from by decide) qlt_nil))))) (fa_cons ((show (_ : Nat) < 40 from by decide)) (fa_cons (⟨(show (_ : Nat) < 40 from by decide), (qlt_cons trivial qlt_nil)⟩) (fa_cons ((qlt_cons trivial (qlt_cons trivial (qlt_cons trivial qlt_nil)))) (fa_cons ((show (_ : Nat) < 40 from by decide)) (fa_cons ((qlt_cons trivial (qlt_cons trivial (qlt_cons (show (_ : Nat) < 40 from by decide) (qlt_cons trivial (qlt_cons trivial (qlt_cons (show (_ : Nat) < 40 from by decide) (qlt_cons (show (_ : Nat) < 40 from by decide) qlt_nil)))))))) (fa_cons ((show (_ : Nat) < 40 from by decide)) (fa_cons ((AInts.of _).lt) (fa_cons ((AInts.of _).lt) (fa_cons ((AInts.of _).lt) (fa_cons ((qlt_cons (show (_ : Nat) < 40 from by decide) (qlt_cons (show (_ : Nat) < 40 from by decide) qlt_nil))) (fa_cons ((show (_ : Nat) < 40 from by decide)) (fa_cons ((vlt_cons (show (_ : Nat) < 40 from by decide) (vlt_cons (show (_ : Nat) < 40 from by decide) vlt_nil))) (fa_cons ((qlt_cons trivial (qlt_cons trivial (qlt_cons (show (_ : Nat) < 40 from by decide) qlt_nil)))) (fa_cons ((show (_ : Nat) < 40 from by decide)) (fa_cons ((qlt_cons trivial (qlt_cons trivial (qlt_cons (show (_ : Nat) < 40 from by decide) qlt_nil)))) (fa_cons ((show (_ : Nat) < 40 from by decide)) (fa_cons (hx.lt) (fa_nil))))))))))))))))))))))))))))))))))
theorem cids_1 : (hpc n 1 (S1 S x)).map (·.1) = [0, 1, 2, 3, 4, 5, 6, 7, 8, 9, 10, 11, 12, 13, 14, 15, 16, 17, 18, 19, 20, 21, 22, 23, 24, 25, 26, 27, 28, 29, 30, 31, 32, 33] := by kernel_rfl
theorem c8_1 : getO 8 (hpc n 1 (S1 S x)) = some (.list S.items) := by kernel_rfl
theorem olt40_2 (I : LI S) (hx : AInts x.lt) (hy : AInts y.lt) : ∀ p ∈ hpc n 2 (S2 S x y), olt 40 p.2 := fa_cons ((show (_ : Nat) < 40 from by decide)) (fa_cons ((show (_ : Nat) < 40 from by decide)) (fa_cons ((show (_ : Nat) < 40 from by decide)) (fa_cons ((show (_ : Nat) < 40 from by decide)) (fa_cons ((fun u hu => by cases hu; exact trivial)) (fa_cons ((fun u hu => by cases hu; exact (by decide : (22 : Nat) < 40))) (fa_cons ((fun u hu => by cases hu; exact trivial)) (fa_cons ((fun u hu => by cases hu; exact (by decide : (20 : Nat) < 40))) (fa_cons (I.items.lt) (fa_cons ((vlt_cons (show (_ : Nat) < 40 from by decide) (vlt_cons trivial vlt_nil))) (fa_cons ((qlt_cons trivial (qlt_cons trivial (qlt_cons trivial (qlt_cons trivial (qlt_cons (show (_ : Nat) < 40 from by decide) (qlt_cons (show (12 : Nat) < 40 from by decide) (qlt_cons (show (13 : Nat) < 40 from by decide) (qlt_cons (show (_ : Nat) < 40 from by decide) (qlt_cons (show (_ : Nat) < 40 from by decide) qlt_nil)))))))))) (fa_cons ((AInts.of _).lt) (fa_cons (I.up.lt) (fa_cons (I.served.lt) (fa_cons ((vlt_cons (show (_ : Nat) < 40 from by decide) (vlt_cons (show (_ : Nat) < 40 from by decide) vlt_nil))) (fa_cons ((AInts.of _).lt) (fa_cons ((qlt_cons trivial (qlt_cons trivial (qlt_cons trivial (qlt_cons (show (_ : Nat) < 40 from by decide) qlt_nil))))) (fa_cons ((show (_ : Nat) < 40 from by decide)) (fa_cons (⟨(show (_ : Nat) < 40 from by decide), (qlt_cons trivial qlt_nil)⟩) (fa_cons ((qlt_cons trivial (qlt_cons trivial (qlt_cons trivial qlt_nil)))) (fa_cons ((show (_ : Nat) < 40 from by decide)) (fa_cons ((qlt_cons trivial (qlt_cons trivial (qlt_cons (show (_ : Nat) < 40 from by decide) (qlt_cons trivial (qlt_cons trivial (qlt_cons (show (_ : Nat) < 40 from by decide) (qlt_cons (show (_ : Nat) < 40 from by decide) qlt_nil)))))))) (fa_cons ((show (_ : Nat) < 40 from by decide)) (fa_cons ((AInts.of _).lt) (fa_cons ((AInts.of _).lt) (fa_cons ((AInts.of _).lt) (fa_cons ((qlt_cons (show (_ : Nat) < 40 from by decide) (qlt_cons (show (_ : Nat) < 40 from by decide) qlt_nil))) (fa_cons ((show (_ : Nat) < 40 from by decide)) (fa_cons ((vlt_cons (show (_ : Nat) < 40 from by decide) (vlt_cons (show (_ : Nat) < 40 from by decide) vlt_nil))) (fa_cons ((qlt_cons trivial (qlt_cons trivial (qlt_cons (show (_ : Nat) < 40 from by decide) qlt_nil)))) (fa_cons ((show (_ : Nat) < 40 from by decide)) (fa_cons ((qlt_cons trivial (qlt_cons trivial (qlt_cons (show (_ : Nat) < 40 from by decide) qlt_nil)))) (fa_cons ((show (_ : Nat) < 40 from by decide)) (fa_cons (hx.lt) (fa_cons (hy.lt) (fa_nil)))))))))))))))))))))))))))))))))))
theorem cids_2 : (hpc n 2 (S2 S x y)).map (·.1) = [0, 1, 2, 3, 4, 5, 6, 7, 8, 9, 10, 11, 12, 13, 14, 15, 16, 17, 18, 19, 20, 21, 22, 23, 24, 25, 26, 27, 28, 29, 30, 31, 32, 33, 34] := by kernel_rfl
theorem c8_2 : getO 8 (hpc n 2 (S2 S x y)) = some (.list S.items) := by kernel_rfl
end
theorem inj_of {f : Nat → Nat} : ∀ {l : List Nat}, (l.map f).Nodup → ∀ x ∈ l, ∀ y ∈ l, f x = f y → x = y
  | [], _, _, h, _, _, _ => nomatch h
  | a :: l, nd, x, hx, y, hy, e => by
    rw [List.map_cons, List.nodup_cons] at nd
    rcases List.mem_cons.mp hx with h1 | h1 <;> rcases List.mem_cons.mp hy with h2 | h2
    · rw [h1, h2]
    · have hm : f y ∈ l.map f := List.mem_map_of_mem h2
      rw [← e, h1] at hm; exact absurd hm nd.1
    · have hm : f x ∈ l.map f := List.mem_map_of_mem h1
      rw [e, h2] at hm; exact absurd hm nd.1
    · exact inj_of nd.2 x h1 y h2 e
theorem pre_down {cs : List (Nat × AO)} {ρ : Nat → Nat} {ids : List Nat} {its : List AV} {sa i65 i49 i12 : Nat} {H2 : Hp} (hid : cs.map (·.1) = ids) (nd : ids.Nodup) (lt : ∀ i ∈ ids, i < 40) (nd2 : (ids.map ρ).Nodup) (ol : ∀ p ∈ cs, olt 40 p.2) (h8 : getO 8 cs = some (.list its)) (hi : AInts its)
    (he : ∀ p ∈ cs, getO (ρ p.1) H2.cells = some (fr8 ρ p)) (r4 : ρ 4 = 4) (r5 : ρ 5 = 5) (r6 : ρ 6 = 6) (r7 : ρ 7 = 7) (r9 : ρ 9 = 9) (r10 : ρ 10 = i65) (r17 : ρ 17 = i49) (r27 : ρ 27 = i12) :
    Down2 ρ (Fcan sa) ⟨cs, 40⟩ ⟨[(81, .glob sa), (11, .ref 9), (65, .ref i65), (49, .ref i49), (12, .ref i12)], [(98, 7), (89, 6), (66, 5), (20, 4)]⟩ H2 := by
  have mi : ∀ p ∈ cs, p.1 ∈ ids := fun p hp => hid ▸ List.mem_map_of_mem hp
  have ndc : (cs.map (·.1)).Nodup := by rw [hid]; exact nd
  refine ⟨⟨fun p hp => ?_, ol, fun p hp => lt _ (mi p hp), fun p hp q hq e => inj_of nd2 _ (mi p hp) _ (mi q hq) e, ndc⟩, fun c v h => ?_, ?_, fun q hq => ?_⟩
  · have e := he p hp
    show getO (ρ p.1) H2.cells = _
    rw [e]
    unfold fr8
    by_cases h : p.1 = 8
    · rw [if_pos h]
      have := lookup_nd ndc hp
      rw [h, h8] at this
      rw [← Option.some.inj this]
      exact congrArg some (congrArg AO.list hi.ren.symm)
    · rw [if_neg h]
  · have := Fcan_loc h
    simp only [List.mem_cons, Prod.mk.injEq, List.not_mem_nil, or_false] at this
    rcases this with ⟨rfl, rfl⟩ | ⟨rfl, rfl⟩ | ⟨rfl, rfl⟩ | ⟨rfl, rfl⟩ | ⟨rfl, rfl⟩
    · exact ⟨rfl, trivial⟩
    · exact ⟨congrArg some (congrArg AV.ref r9.symm), show 9 < 40 by decide⟩
    · exact ⟨congrArg some (congrArg AV.ref r10.symm), show 10 < 40 by decide⟩
    · exact ⟨congrArg some (congrArg AV.ref r17.symm), show 17 < 40 by decide⟩
    · exact ⟨congrArg some (congrArg AV.ref r27.symm), show 27 < 40 by decide⟩
  · show [(98, 7), (89, 6), (66, 5), (20, 4)] = [(98, ρ 7), (89, ρ 6), (66, ρ 5), (20, ρ 4)]
    rw [r4, r5, r6, r7]
  · simp only [List.mem_cons, List.not_mem_nil, or_false] at hq
    rcases hq with rfl | rfl | rfl | rfl <;> (dsimp only; decide)
theorem zeros_len : ∀ k, (zeros k).length = k
  | 0 => rfl
  | k + 1 => congrArg Nat.succ (zeros_len k)
theorem cx0_ok {n : Int} : CInv n cx0 := ⟨⟨[], rfl, .nil, fun _ h => nomatch h⟩, rfl⟩
theorem base_ok {n : Nat} {it : List AV} (h : ∃ its : List Int, it = its.map .int ∧ its.length ≤ 100) : Inv0 (n : Int) (base n it) := ⟨h, ⟨rfl, show (0 : Int) ≤ 0 by decide, show (0 : Int) < 2 ^ 64 by decide⟩, ⟨rfl, show (0 : Int) ≤ 18446744073709551615 by decide, show (18446744073709551615 : Int) < 2 ^ 64 by decide⟩, ⟨rfl, .inl rfl⟩, ⟨rfl, by rw [show (base n it).ranks = zeros (n + 1) from rfl, zeros_len]; lia, rfl⟩, ⟨[], rfl, .nil, fun _ h => nomatch h⟩, ⟨[], rfl, .nil, fun _ h => nomatch h⟩⟩
section
variable {w : World} {p : Program} {loose : List Str} {mean : ExcName → Option Value} {mg mb : Str → Option Value} {G0 : Heap} {st : Sta}
theorem law_cut : lawB w = (lawB w).take 1 ++ (((lawB w).drop 1).take 8 ++ (lawB w).drop 9) := by kernel_rfl
theorem s0_D (K : Kx) : stmtsD ((tr TT K 40).S (tcL w)) ((lawB w).take 1) = tC (tName (stL 11) (eList (aC (eSl K.scr 60 (getV 81)) (aC (eK (.int 0)) (aN))))) tN := by kernel_rfl
theorem s0_ok {scr : Addr × List Int} {o : Orc} {r : Nat} : stmtsD ((tr TT (KO w scr o (r + 11)) 40).S (tcL w)) ((lawB w).take 1) (Fl0 scr.1) Hl0 = .nx (Fl1 scr.1) (Hl1 ((scr.2.take 60).map .int) 0) := by
  rw [s0_D]
  refine tC_nx (tName_ok (v := .ref 9) (eList_ok (xs := [.ref 8, .int 0]) (aC_ok (H1 := ⟨(8, .list ((scr.2.take 60).map .int)) :: (Hl0).cells, 9⟩) ?_ (aC_ok rfl aN_ok)) rfl) rfl) rfl
  unfold eSl
  show slD scr 60 (.glob scr.1) Hl0 = _
  unfold slD; dsimp only; rw [if_pos ⟨rfl, by decide⟩]; rfl
theorem go_blk (GD : Gd w p loose mean mg mb G0) {scr : Addr × List Int} (hs : ScrOk G0 scr) {r : Nat} (hst : StOk G0 st (tcL w)) {it : List AV} {B : Nat} {gs : List Prop} {F2 : Frm} {cs : List (Nat × AO)} {ρ : Nat → Nat} {a : Act} {φ : Nat → Addr} {s : Shared} {Q : Flow → Shared → Prop} {E : Value → Shared → Prop} (ok : a.Ok st (4 * (r + 11) + 1) G0) (hE : OwnE (model PR w) a.A (a.env st) E) (R : RelX w a φ (Fl1 scr.1) (Hl1 it 0) s)
    (h : (nxOf (blk w (KO w (scr.1, scr.2) (orc0 []) (r + 11)) 1 8 (Fl1 scr.1) (Hl1 it B))).map (fun q => (q.1, q.2.1, each (fun p => getO (ρ p.1) q.2.2.cells) cs)) = some (gs, F2, cs.map fun p => some (fr8 ρ p))) (hg : ∀ q ∈ gs, q)
    (dn : ∀ H2 : Hp, (∀ p ∈ cs, getO (ρ p.1) H2.cells = some (fr8 ρ p)) → Down2 ρ (Fcan scr.1) ⟨cs, 40⟩ F2 H2)
    (k : ∀ φ s, RelX w a φ (Fcan scr.1) ⟨cs, 40⟩ s → wpAny (model PR w) a.A (execs ((lawB w).drop 9) (a.env st)) Q E s) : wpAny (model PR w) a.A (execs (((lawB w).drop 1).take 8 ++ (lawB w).drop 9) (a.env st)) Q E s := by
  obtain ⟨⟨l, F', H'⟩, h1, h2⟩ := Option.map_eq_some_iff.mp h
  have h3 := Prod.mk.inj h2
  have h4 := Prod.mk.inj h3.2
  obtain rfl : l = gs := h3.1
  obtain rfl : F' = F2 := h4.1
  have he := each_map h4.2
  have R' := R.bmp B
  rw [show (Hl1 it 0).next + B = (Hl1 it B).next from by show 0 + 10 + B = B + 10; lia] at R'
  exact block_nx (fun t => (tr_ok GD (TT_ok w) (KO_ok GD hs (orc0 []) (r + 11)) 40).S st (tcL w) t hst) ok R' hE (nxOf_some h1) hg fun φ' s' R2 => k _ s' ((dn H' he).rel R2)
theorem moG {its : List Int} {q : Int} (hq : 0 < q) (hl : its.length ≤ 100) : MoG (its.map .int) q (mor its q) := ⟨hq, its, rfl, hl, rfl⟩
theorem mor_lt {its : List Int} {q : Int} (hq : 0 < q) : 0 ≤ mor its q ∧ mor its q < q := by
  unfold mor; split
  · lia
  · exact ⟨Int.emod_nonneg _ (by lia), Int.emod_lt_of_pos _ hq⟩
set_option maxHeartbeats 4000000 in
/-- from the law's start to the loop -/
theorem start_ok (GD : Gd w p loose mean mg mb G0) {scr : Addr × List Int} (hs : ScrOk G0 scr) {r : Nat} (hst : StOk G0 st (tcL w)) {a : Act} {φ : Nat → Addr} {s : Shared} {Q : Flow → Shared → Prop} {E : Value → Shared → Prop} (ok : a.Ok st (4 * (r + 11) + 1) G0) (hE : OwnE (model PR w) a.A (a.env st) E) (R : RelX w a φ (Fl0 scr.1) Hl0 s)
    (k : ∀ n c S φ s, LapOk n c S → RelX w a φ (Fcan scr.1) ⟨hpc n c S, 40⟩ s → wpAny (model PR w) a.A (execs ((lawB w).drop 9) (a.env st)) Q E s) : wpAny (model PR w) a.A (execs (lawB w) (a.env st)) Q E s := by
  rw [law_cut]
  refine block_nx (gs := []) (fun t => (tr_ok GD (TT_ok w) (KO_ok GD hs (orc0 []) (r + 11)) 40).S st (tcL w) t hst) ok R hE s0_ok al_nil fun φ1 s1 R1 => ?_
  obtain ⟨its, hits⟩ : ∃ its : List Int, its = scr.2.take 60 := ⟨_, rfl⟩
  rw [← hits] at R1
  have hl : its.length ≤ 100 := by rw [hits, List.length_take]; lia
  have hb : ∃ z : List Int, (its.map AV.int).tail.tail = z.map .int ∧ z.length ≤ 100 := ⟨its.tail.tail, by rw [List.map_tail, List.map_tail], by rw [List.length_tail, List.length_tail]; lia⟩
  have hai : AInts (its.map AV.int).tail.tail := by obtain ⟨z, e, _⟩ := hb; exact ⟨z, e⟩
  obtain ⟨x, hx⟩ : ∃ x, mor its 3 = x := ⟨_, rfl⟩
  obtain ⟨y, hy⟩ : ∃ y, mor its.tail 2 = y := ⟨_, rfl⟩
  have bx := mor_lt (its := its) (q := 3) (by decide)
  have by' := mor_lt (its := its.tail) (q := 2) (by decide)
  rw [hx] at bx; rw [hy] at by'
  have gx : MoG (its.map .int) 3 x := hx ▸ moG (by decide) hl
  have gy : MoG (its.map AV.int).tail 2 y := by rw [← List.map_tail, ← hy]; exact moG (by decide) (by rw [List.length_tail]; lia)
  have cx : x = 0 ∨ x = 1 ∨ x = 2 := by lia
  have cy : y = 0 ∨ y = 1 := by lia
  rcases cx with rfl | rfl | rfl
  · rcases cy with rfl | rfl
    · have h0 := pre_0_0 w scr.1 scr.2 (it := its.map .int) r
      have dn : ∀ H2 : Hp, (∀ p ∈ hpc 3 2 (S2 (base 3 (its.map AV.int).tail.tail) cx0 cx0), getO (rtab (cB [0, 0]) rt2 p.1) H2.cells = some (fr8 (rtab (cB [0, 0]) rt2) p)) → Down2 (rtab (cB [0, 0]) rt2) (Fcan scr.1) ⟨hpc 3 2 (S2 (base 3 (its.map AV.int).tail.tail) cx0 cx0), 40⟩ _ H2 := fun H2 he => pre_down (its := (its.map AV.int).tail.tail) (sa := scr.1) (i65 := cB [0, 0] + 2013) (i49 := cB [0, 0] + 2027) (i12 := cB [0, 0] + 2041) cids_2 (by decide) (by decide) (by decide +kernel) (olt40_2 ⟨hai, ⟨[], rfl⟩, ⟨[], rfl⟩⟩ ⟨[], rfl⟩ ⟨[], rfl⟩) c8_2 hai he (by kernel_rfl) (by kernel_rfl) (by kernel_rfl) (by kernel_rfl) (by kernel_rfl) (by kernel_rfl) (by kernel_rfl) (by kernel_rfl)
      exact go_blk GD hs (r := r) hst (it := its.map .int) (B := cB [0, 0]) (gs := [MoG (its.map .int) 3 0, MoG (its.map AV.int).tail 2 0]) (F2 := ⟨[(81, .glob scr.1), (11, .ref 9), (65, .ref (cB [0, 0] + 2013)), (49, .ref (cB [0, 0] + 2027)), (12, .ref (cB [0, 0] + 2041))], [(98, 7), (89, 6), (66, 5), (20, 4)]⟩) (cs := hpc 3 2 (S2 (base 3 (its.map AV.int).tail.tail) cx0 cx0)) (ρ := rtab (cB [0, 0]) rt2) ok hE R1 h0 (al_cons gx (al_cons gy al_nil)) dn fun φ s R2 => k 3 2 (S2 (base 3 (its.map AV.int).tail.tail) cx0 cx0) φ s ⟨.inl rfl, .inr ⟨rfl, _, _, _, rfl, base_ok hb, cx0_ok, cx0_ok⟩⟩ R2
    · have h0 := pre_0_1 w scr.1 scr.2 (it := its.map .int) r
      have dn : ∀ H2 : Hp, (∀ p ∈ hpc 3 1 (S1 (base 3 (its.map AV.int).tail.tail) cx0), getO (rtab (cB [0, 1]) rt1 p.1) H2.cells = some (fr8 (rtab (cB [0, 1]) rt1) p)) → Down2 (rtab (cB [0, 1]) rt1) (Fcan scr.1) ⟨hpc 3 1 (S1 (base 3 (its.map AV.int).tail.tail) cx0), 40⟩ _ H2 := fun H2 he => pre_down (its := (its.map AV.int).tail.tail) (sa := scr.1) (i65 := cB [0, 1] + 2013) (i49 := cB [0, 1] + 2026) (i12 := cB [0, 1] + 2040) cids_1 (by decide) (by decide) (by decide +kernel) (olt40_1 ⟨hai, ⟨[], rfl⟩, ⟨[], rfl⟩⟩ ⟨[], rfl⟩) c8_1 hai he (by kernel_rfl) (by kernel_rfl) (by kernel_rfl) (by kernel_rfl) (by kernel_rfl) (by kernel_rfl) (by kernel_rfl) (by kernel_rfl)
      exact go_blk GD hs (r := r) hst (it := its.map .int) (B := cB [0, 1]) (gs := [MoG (its.map .int) 3 0, MoG (its.map AV.int).tail 2 1]) (F2 := ⟨[(81, .glob scr.1), (11, .ref 9), (65, .ref (cB [0, 1] + 2013)), (49, .ref (cB [0, 1] + 2026)), (12, .ref (cB [0, 1] + 2040))], [(98, 7), (89, 6), (66, 5), (20, 4)]⟩) (cs := hpc 3 1 (S1 (base 3 (its.map AV.int).tail.tail) cx0)) (ρ := rtab (cB [0, 1]) rt1) ok hE R1 h0 (al_cons gx (al_cons gy al_nil)) dn fun φ s R2 => k 3 1 (S1 (base 3 (its.map AV.int).tail.tail) cx0) φ s ⟨.inl rfl, .inl ⟨rfl, _, _, rfl, base_ok hb, cx0_ok⟩⟩ R2
  · rcases cy with rfl | rfl
    · have h0 := pre_1_0 w scr.1 scr.2 (it := its.map .int) r
      have dn : ∀ H2 : Hp, (∀ p ∈ hpc 7 2 (S2 (base 7 (its.map AV.int).tail.tail) cx0 cx0), getO (rtab (cB [1, 0]) rt2 p.1) H2.cells = some (fr8 (rtab (cB [1, 0]) rt2) p)) → Down2 (rtab (cB [1, 0]) rt2) (Fcan scr.1) ⟨hpc 7 2 (S2 (base 7 (its.map AV.int).tail.tail) cx0 cx0), 40⟩ _ H2 := fun H2 he => pre_down (its := (its.map AV.int).tail.tail) (sa := scr.1) (i65 := cB [1, 0] + 2013) (i49 := cB [1, 0] + 2027) (i12 := cB [1, 0] + 2041) cids_2 (by decide) (by decide) (by decide +kernel) (olt40_2 ⟨hai, ⟨[], rfl⟩, ⟨[], rfl⟩⟩ ⟨[], rfl⟩ ⟨[], rfl⟩) c8_2 hai he (by kernel_rfl) (by kernel_rfl) (by kernel_rfl) (by kernel_rfl) (by kernel_rfl) (by kernel_rfl) (by kernel_rfl) (by kernel_rfl)
      exact go_blk GD hs (r := r) hst (it := its.map .int) (B := cB [1, 0]) (gs := [MoG (its.map .int) 3 1, MoG (its.map AV.int).tail 2 0]) (F2 := ⟨[(81, .glob scr.1), (11, .ref 9), (65, .ref (cB [1, 0] + 2013)), (49, .ref (cB [1, 0] + 2027)), (12, .ref (cB [1, 0] + 2041))], [(98, 7), (89, 6), (66, 5), (20, 4)]⟩) (cs := hpc 7 2 (S2 (base 7 (its.map AV.int).tail.tail) cx0 cx0)) (ρ := rtab (cB [1, 0]) rt2) ok hE R1 h0 (al_cons gx (al_cons gy al_nil)) dn fun φ s R2 => k 7 2 (S2 (base 7 (its.map AV.int).tail.tail) cx0 cx0) φ s ⟨.inr (.inl rfl), .inr ⟨rfl, _, _, _, rfl, base_ok hb, cx0_ok, cx0_ok⟩⟩ R2
    · have h0 := pre_1_1 w scr.1 scr.2 (it := its.map .int) r
      have dn : ∀ H2 : Hp, (∀ p ∈ hpc 7 1 (S1 (base 7 (its.map AV.int).tail.tail) cx0), getO (rtab (cB [1, 1]) rt1 p.1) H2.cells = some (fr8 (rtab (cB [1, 1]) rt1) p)) → Down2 (rtab (cB [1, 1]) rt1) (Fcan scr.1) ⟨hpc 7 1 (S1 (base 7 (its.map AV.int).tail.tail) cx0), 40⟩ _ H2 := fun H2 he => pre_down (its := (its.map AV.int).tail.tail) (sa := scr.1) (i65 := cB [1, 1] + 2013) (i49 := cB [1, 1] + 2026) (i12 := cB [1, 1] + 2040) cids_1 (by decide) (by decide) (by decide +kernel) (olt40_1 ⟨hai, ⟨[], rfl⟩, ⟨[], rfl⟩⟩ ⟨[], rfl⟩) c8_1 hai he (by kernel_rfl) (by kernel_rfl) (by kernel_rfl) (by kernel_rfl) (by kernel_rfl) (by kernel_rfl) (by kernel_rfl) (by kernel_rfl)
      exact go_blk GD hs (r := r) hst (it := its.map .int) (B := cB [1, 1]) (gs := [MoG (its.map .int) 3 1, MoG (its.map AV.int).tail 2 1]) (F2 := ⟨[(81, .glob scr.1), (11, .ref 9), (65, .ref (cB [1, 1] + 2013)), (49, .ref (cB [1, 1] + 2026)), (12, .ref (cB [1, 1] + 2040))], [(98, 7), (89, 6), (66, 5), (20, 4)]⟩) (cs := hpc 7 1 (S1 (base 7 (its.map AV.int).tail.tail) cx0)) (ρ := rtab (cB [1, 1]) rt1) ok hE R1 h0 (al_cons gx (al_cons gy al_nil)) dn fun φ s R2 => k 7 1 (S1 (base 7 (its.map AV.int).tail.tail) cx0) φ s ⟨.inr (.inl rfl), .inl ⟨rfl, _, _, rfl, base_ok hb, cx0_ok⟩⟩ R2
  · rcases cy with rfl | rfl
    · have h0 := pre_2_0 w scr.1 scr.2 (it := its.map .int) r
      have dn : ∀ H2 : Hp, (∀ p ∈ hpc 4 2 (S2 (base 4 (its.map AV.int).tail.tail) cx0 cx0), getO (rtab (cB [2, 0]) rt2 p.1) H2.cells = some (fr8 (rtab (cB [2, 0]) rt2) p)) → Down2 (rtab (cB [2, 0]) rt2) (Fcan scr.1) ⟨hpc 4 2 (S2 (base 4 (its.map AV.int).tail.tail) cx0 cx0), 40⟩ _ H2 := fun H2 he => pre_down (its := (its.map AV.int).tail.tail) (sa := scr.1) (i65 := cB [2, 0] + 2013) (i49 := cB [2, 0] + 2027) (i12 := cB [2, 0] + 2041) cids_2 (by decide) (by decide) (by decide +kernel) (olt40_2 ⟨hai, ⟨[], rfl⟩, ⟨[], rfl⟩⟩ ⟨[], rfl⟩ ⟨[], rfl⟩) c8_2 hai he (by kernel_rfl) (by kernel_rfl) (by kernel_rfl) (by kernel_rfl) (by kernel_rfl) (by kernel_rfl) (by kernel_rfl) (by kernel_rfl)
      exact go_blk GD hs (r := r) hst (it := its.map .int) (B := cB [2, 0]) (gs := [MoG (its.map .int) 3 2, MoG (its.map AV.int).tail 2 0]) (F2 := ⟨[(81, .glob scr.1), (11, .ref 9), (65, .ref (cB [2, 0] + 2013)), (49, .ref (cB [2, 0] + 2027)), (12, .ref (cB [2, 0] + 2041))], [(98, 7), (89, 6), (66, 5), (20, 4)]⟩) (cs := hpc 4 2 (S2 (base 4 (its.map AV.int).tail.tail) cx0 cx0)) (ρ := rtab (cB [2, 0]) rt2) ok hE R1 h0 (al_cons gx (al_cons gy al_nil)) dn fun φ s R2 => k 4 2 (S2 (base 4 (its.map AV.int).tail.tail) cx0 cx0) φ s ⟨.inr (.inr rfl), .inr ⟨rfl, _, _, _, rfl, base_ok hb, cx0_ok, cx0_ok⟩⟩ R2
    · have h0 := pre_2_1 w scr.1 scr.2 (it := its.map .int) r
      have dn : ∀ H2 : Hp, (∀ p ∈ hpc 4 1 (S1 (base 4 (its.map AV.int).tail.tail) cx0), getO (rtab (cB [2, 1]) rt1 p.1) H2.cells = some (fr8 (rtab (cB [2, 1]) rt1) p)) → Down2 (rtab (cB [2, 1]) rt1) (Fcan scr.1) ⟨hpc 4 1 (S1 (base 4 (its.map AV.int).tail.tail) cx0), 40⟩ _ H2 := fun H2 he => pre_down (its := (its.map AV.int).tail.tail) (sa := scr.1) (i65 := cB [2, 1] + 2013) (i49 := cB [2, 1] + 2026) (i12 := cB [2, 1] + 2040) cids_1 (by decide) (by decide) (by decide +kernel) (olt40_1 ⟨hai, ⟨[], rfl⟩, ⟨[], rfl⟩⟩ ⟨[], rfl⟩) c8_1 hai he (by kernel_rfl) (by kernel_rfl) (by kernel_rfl) (by kernel_rfl) (by kernel_rfl) (by kernel_rfl) (by kernel_rfl) (by kernel_rfl)
      exact go_blk GD hs (r := r) hst (it := its.map .int) (B := cB [2, 1]) (gs := [MoG (its.map .int) 3 2, MoG (its.map AV.int).tail 2 1]) (F2 := ⟨[(81, .glob scr.1), (11, .ref 9), (65, .ref (cB [2, 1] + 2013)), (49, .ref (cB [2, 1] + 2026)), (12, .ref (cB [2, 1] + 2040))], [(98, 7), (89, 6), (66, 5), (20, 4)]⟩) (cs := hpc 4 1 (S1 (base 4 (its.map AV.int).tail.tail) cx0)) (ρ := rtab (cB [2, 1]) rt1) ok hE R1 h0 (al_cons gx (al_cons gy al_nil)) dn fun φ s R2 => k 4 1 (S1 (base 4 (its.map AV.int).tail.tail) cx0) φ s ⟨.inr (.inr rfl), .inl ⟨rfl, _, _, rfl, base_ok hb, cx0_ok⟩⟩ R2
end
end Mine
end
-- M96
section
open PySem PySem.W PyProof.Rows PySem.Calls PySem.Spec
set_option Elab.async false
set_option linter.all false
namespace Mine
set_option maxRecDepth 100000
noncomputable def retOf (r : RS) : Option (AV × List (Option AO)) := RS.rec (motive := fun _ => Option (AV × List (Option AO))) (fun _ _ => none) (fun v _ H => some (v, [getO 0 H.cells, getO 1 H.cells, getO 2 H.cells, getO 3 H.cells])) (fun _ _ _ => none) none (fun _ _ _ => none) r
noncomputable abbrev tab4V : List (Option AO) := [some (.tab 0 637), some (.tab 1 632), some (.tab 2 594), some (.tab 3 656)]
theorem retOf_some {r : RS} {v : AV} (h : retOf r = some (v, tab4V)) : ∃ F H, r = .ret v F H ∧ H.get 0 = some (.tab 0 637) ∧ H.get 1 = some (.tab 1 632) ∧ H.get 2 = some (.tab 2 594) ∧ H.get 3 = some (.tab 3 656) := by
  induction r with
  | ret u F H =>
    have h := Prod.mk.inj (Option.some.inj (show some (u, _) = some (v, tab4V) from h))
    obtain ⟨h1, h2⟩ := h
    have a0 := List.cons.inj h2
    have a1 := List.cons.inj a0.2
    have a2 := List.cons.inj a1.2
    have a3 := List.cons.inj a2.2
    exact ⟨F, H, by rw [h1], a0.1, a1.1, a2.1, a3.1⟩
  | nx F H => exact no_some9 h
  | exc e F H => exact no_some9 h
  | stuck => exact no_some9 h
  | guard p r => exact no_some9 h
section
variable (w : World) (scr : Addr × List Int) {S : LS} {x y : Cx} (sa : Addr) (r : Nat)
theorem suf_1_3 : retOf (blk w (KO w scr (orc0 []) (r + 11)) 10 6 (Fcan sa) ⟨hpc 3 1 (S1 S x), 42⟩) = some (.bool true, tab4V) := by kernel_rfl
theorem suf_1_7 : retOf (blk w (KO w scr (orc0 []) (r + 11)) 10 6 (Fcan sa) ⟨hpc 7 1 (S1 S x), 42⟩) = some (.bool true, tab4V) := by kernel_rfl
theorem suf_1_4 : retOf (blk w (KO w scr (orc0 []) (r + 11)) 10 6 (Fcan sa) ⟨hpc 4 1 (S1 S x), 42⟩) = some (.bool true, tab4V) := by kernel_rfl
theorem suf_2_3 : retOf (blk w (KO w scr (orc0 []) (r + 11)) 10 6 (Fcan sa) ⟨hpc 3 2 (S2 S x y), 42⟩) = some (.bool true, tab4V) := by kernel_rfl
theorem suf_2_7 : retOf (blk w (KO w scr (orc0 []) (r + 11)) 10 6 (Fcan sa) ⟨hpc 7 2 (S2 S x y), 42⟩) = some (.bool true, tab4V) := by kernel_rfl
theorem suf_2_4 : retOf (blk w (KO w scr (orc0 []) (r + 11)) 10 6 (Fcan sa) ⟨hpc 4 2 (S2 S x y), 42⟩) = some (.bool true, tab4V) := by kernel_rfl
end
end Mine
end
-- M97
section
open PySem PySem.W PyProof.Rows PySem.Calls PySem.Spec
set_option Elab.async false
set_option linter.all false
namespace Mine
set_option maxRecDepth 100000
section
variable {w : World} {p : Program} {loose : List Str} {mean : ExcName → Option Value} {mg mb : Str → Option Value} {G0 : Heap} {st : Sta}
theorem law_for : (lawB w).drop 9 = .For (.Name "lap" (nmPs (forTg (forL w)))) (forIt (forL w)) (forBd (forL w)) [] (forPs (forL w)) :: (lawB w).drop 10 := by kernel_rfl
theorem law_end : (lawB w).drop 10 = ((lawB w).drop 10).take 6 ++ [] := by kernel_rfl
theorem suf_ok {scr : Addr × List Int} {sa : Addr} {r : Nat} {n c : Int} {S : LS} (h : LapOk n c S) : ∃ F H, blk w (KO w scr (orc0 []) (r + 11)) 10 6 (Fcan sa) ⟨hpc n c S, 42⟩ = .ret (.bool true) F H ∧ H.get 0 = some (.tab 0 637) ∧ H.get 1 = some (.tab 1 632) ∧ H.get 2 = some (.tab 2 594) ∧ H.get 3 = some (.tab 3 656) := by
  obtain ⟨hn, ⟨rfl, S0, x, rfl, I, hx⟩ | ⟨rfl, S0, x, y, rfl, I, hx, hy⟩⟩ := h
  · rcases hn with rfl | rfl | rfl
    · exact retOf_some (suf_1_3 w scr sa r)
    · exact retOf_some (suf_1_7 w scr sa r)
    · exact retOf_some (suf_1_4 w scr sa r)
  · rcases hn with rfl | rfl | rfl
    · exact retOf_some (suf_2_3 w scr sa r)
    · exact retOf_some (suf_2_7 w scr sa r)
    · exact retOf_some (suf_2_4 w scr sa r)
theorem body_ok (GD : Gd w p loose mean mg mb G0) {scr : Addr × List Int} (hs : ScrOk G0 scr) {r : Nat} (hst : StOk G0 st (tcL w)) {a : Act} {φ : Nat → Addr} {s : Shared} {Q : Flow → Shared → Prop} {E : Value → Shared → Prop} (ok : a.Ok st (4 * (r + 11) + 1) G0) (hE : OwnE (model PR w) a.A (a.env st) E) (R : RelX w a φ (Fl0 scr.1) Hl0 s)
    (k : ∀ φ F H s, RelX w a φ F H s → H.get 0 = some (.tab 0 637) → H.get 1 = some (.tab 1 632) → H.get 2 = some (.tab 2 594) → H.get 3 = some (.tab 3 656) → Q (.ret (.bool true)) s) : wpAny (model PR w) a.A (execs (lawB w) (a.env st)) Q E s := by
  refine start_ok GD hs hst ok hE R fun n c S φ1 s1 hL R1 => ?_
  rw [law_for]
  refine wpAny_execs_cons (loop_ok GD hs (r := r) hst hL ok R1 fun φ2 s2 S' hL' R2 => ?_)
  show wpAny (model PR w) a.A (execs ((lawB w).drop 10) (a.env st)) Q E s2
  rw [law_end]
  refine hide fun q9 b9 => ?_
  refine xe25 (suf_ok (w := w) (scr := scr) (sa := scr.1) (r := r) hL') fun F H e t0 t1 t2 t3 => ?_
  refine b9 ?_
  refine block (fun t => (tr_ok GD (TT_ok w) (KO_ok GD hs (orc0 []) (r + 11)) 40).S st (tcL w) t hst) ok R2 hE ?_
  rw [show stmtsD ((tr TT (KO w scr (orc0 []) (r + 11)) 40).S (tcL w)) (((lawB w).drop 10).take 6) (Fcan scr.1) ⟨hpc n c S', 42⟩ = .ret (.bool true) F H from e]
  intro φ3 s3 u R3 X3 hu
  subst hu
  exact k φ3 F H s3 R3 t0 t1 t2 t3
/-- the tables are kept, nothing else -/
theorem RelX.tabs {a : Act} {φ φ' : Nat → Addr} {F : Frm} {H : Hp} {s : Shared} {n : Nat} {cl : List (Nat × Nat)} (hn : 4 ≤ n) (R : RelX w a φ' F H s) (hc : All2 (CR φ n) cl a.cl) (f0 : φ 0 = 637) (f1 : φ 1 = 632) (f2 : φ 2 = 594) (f3 : φ 3 = 656)
    (t0 : H.get 0 = some (.tab 0 637)) (t1 : H.get 1 = some (.tab 1 632)) (t2 : H.get 2 = some (.tab 2 594)) (t3 : H.get 3 = some (.tab 3 656)) : RelX w a φ ⟨[], cl⟩ ⟨tabL, n⟩ s := by
  refine hide fun q9 b9 => ?_
  refine xe3 (R) fun g m news r => ?_
  have d : Down (fun i => i) ⟨tabL, n⟩ H := ⟨fa_cons t0 (fa_cons t1 (fa_cons t2 (fa_cons t3 fa_nil))), fa_cons (show 0 < n by lia) (fa_cons (show 1 < n by lia) (fa_cons (show 2 < n by lia) (fa_cons (show 3 < n by lia) fa_nil))), fa_cons (show 0 < n by lia) (fa_cons (show 1 < n by lia) (fa_cons (show 2 < n by lia) (fa_cons (show 3 < n by lia) fa_nil))), fun _ _ _ _ e => e, by show ([0, 1, 2, 3] : List Nat).Nodup; decide⟩
  have g0 : φ' 0 = 637 := by obtain ⟨o, _, h⟩ := r.lr.get t0; exact h.2.1
  have g1 : φ' 1 = 632 := by obtain ⟨o, _, h⟩ := r.lr.get t1; exact h.2.1
  have g2 : φ' 2 = 594 := by obtain ⟨o, _, h⟩ := r.lr.get t2; exact h.2.1
  have g3 : φ' 3 = 656 := by obtain ⟨o, _, h⟩ := r.lr.get t3; exact h.2.1
  refine xe12 (r.lr.down d) fun n' l' sub => ?_
  refine b9 ?_
  refine ⟨g, m, n', ⟨r.fr, fun q hq => r.nw q (sub q hq), ?_, fun c x v _ e => (by exact no_some9 e), hc, r.turn, r.same⟩⟩
  refine hide fun q9 b9 => ?_
  refine xe1 (l'.ex) fun sat L => ?_
  have same : ∀ p ∈ (tabL : List (Nat × AO)), φ p.1 = φ' p.1 := fa_cons (f0.trans g0.symm) (fa_cons (f1.trans g1.symm) (fa_cons (f2.trans g2.symm) (fa_cons (f3.trans g3.symm) fa_nil)))
  refine xe12 (L.b.all) fun led e h => ?_
  refine b9 ?_
  have rest : ∀ {cs : List (Nat × AO)} {led : List (Addr × Obj)}, (∀ p ∈ cs, φ p.1 = φ' p.1 ∧ ∃ i P, p.2 = .tab i P ∧ φ i = P) → All2 (fun p q => q.1 = φ' p.1 ∧ OR (fun i => φ' i) n w p.2 q.2) cs led → All2 (fun p q => q.1 = φ p.1 ∧ OR φ n w p.2 q.2) cs led := by
    intro cs led hs h
    induction h with
    | nil => exact .nil
    | @cons p q _ _ x _ ih =>
      refine .cons ?_ (ih fun z hz => hs z (.tail _ hz))
      obtain ⟨e1, i, P, e2, e3⟩ := hs p (.head _)
      refine ⟨x.1.trans e1.symm, ?_⟩
      have y := x.2
      rw [e2] at y ⊢
      exact ⟨y.1, e3, y.2.2⟩
  have tb : ∀ p ∈ (tabL : List (Nat × AO)), φ p.1 = φ' p.1 ∧ ∃ i P, p.2 = .tab i P ∧ φ i = P := fa_cons ⟨f0.trans g0.symm, _, _, rfl, f0⟩ (fa_cons ⟨f1.trans g1.symm, _, _, rfl, f1⟩ (fa_cons ⟨f2.trans g2.symm, _, _, rfl, f2⟩ (fa_cons ⟨f3.trans g3.symm, _, _, rfl, f3⟩ fa_nil)))
  exact ⟨sat, ⟨⟨led, e, rest tb h⟩, fun p hp q hq => by rw [same p hp]; exact L.b.off p hp q hq, L.b.lt, fun p hp q hq e => by rw [same p hp, same q hq] at e; exact L.b.inj p hp q hq e, L.b.nd⟩, L.like, fun p hp o ho c hr => by rw [same p hp] at ho; exact L.ref p hp o ho c hr⟩
open Classical in
noncomputable def lawD (sa : Addr) : ST := fun F H => if F = Fl0 sa ∧ H = Hl0 then .ret (.bool true) ⟨[], F.cl⟩ ⟨tabL, H.next⟩ else .stuck
theorem law_SSs (GD : Gd w p loose mean mg mb G0) {scr : Addr × List Int} (hs : ScrOk G0 scr) {r : Nat} (hst : StOk G0 st (tcL w)) : SSs w G0 (4 * (r + 11) + 1) st (lawB w) (lawD scr.1) := fun a φ F H s Q E ok R hE h => by
  unfold lawD at h
  split at h
  · rename_i hc
    obtain ⟨rfl, rfl⟩ := hc
    refine body_ok GD hs hst ok hE R fun φ' F' H' s' R' t0 t1 t2 t3 => h φ s' (.bool true) ?_ .refl rfl
    refine hide fun q9 b9 => ?_
    refine xe3 (R) fun g m news r0 => ?_
    refine b9 ?_
    have tb : ∀ {i P : Nat}, Hp.get Hl0 i = some (.tab i P) → φ i = P := fun e => by obtain ⟨o, _, h⟩ := r0.lr.get e; exact h.2.1
    exact R'.tabs (by decide) r0.cl (tb rfl) (tb rfl) (tb rfl) (tb rfl) t0 t1 t2 t3
  · exact h.elim
/-- a written function with a reading of one's own -/
theorem SF_own (GD : Gd w p loose mean mg mb G0) {lv : Nat} {q : Addr × Nat × Tab} (h : FOk w G0 q.1 q.2.1 q.2.2) (nh : Bool) {D : ST} (hD : ∀ st : Sta, StOk G0 st ⟨(fd w q.1).scope, nh, false, q.2.2⟩ → SSs w G0 lv st (bd w q.1) D) :
    SF w G0 (lv + 1) nh (.ref q.1) (fnD (((pnames w q.1).take q.2.1).map nc) ((xval w q.1 q.2.1).map xav) ((fcells w q.1).map fun c => nc c.1) D) := by
  refine hide fun q9 b9 => ?_
  refine xe3 (h.ho) fun oc od osl ho => ?_
  refine b9 ?_
  have ok := h.ok
  unfold fok at ok
  simp only [Bool.and_eq_true, decide_eq_true_eq, Bool.not_eq_true'] at ok
  refine hide fun q9 b9 => ?_
  obtain ⟨⟨⟨⟨⟨⟨⟨⟨⟨o1, o2⟩, o3⟩, o4⟩, o5⟩, o6⟩, o7⟩, o8⟩, o9⟩, o10⟩ := ok
  refine b9 ?_
  have hfd : fnOf (fd w q.1).name (fd w q.1).qualname (fd w q.1).params (bd w q.1) (fd w q.1).scope (fd w q.1).defaults (fd w q.1).kwdefaults (fd w q.1).doc (fd w q.1).pyModule (fd w q.1).annotations (fd w q.1).code (fd w q.1).closureTuple = fd w q.1 := by
    have e : fd w q.1 = fnOf (fd w q.1).name (fd w q.1).qualname (fd w q.1).params (bd w q.1) (fd w q.1).scope (fd w q.1).defaults (fd w q.1).kwdefaults (fd w q.1).doc (fd w q.1).pyModule (fd w q.1).annotations (fd w q.1).code (fd w q.1).closureTuple := by
      conv => lhs; unfold fd; rw [ho]
    exact e.symm
  refine SF_intro GD ho h.hcd ?_ (all2_kn o1) ?_ o3 o4 ?_ o6 o7 (hD _ ⟨rfl, rfl, rfl, h.tab⟩) o8 o9 (eq_of_beq o10)
  · intro vs hl s X
    rw [hfd]
    refine h.hb vs ?_ s X
    rw [hl, List.length_take]
    exact Nat.min_eq_left (Nat.le_of_ble_eq_true h.hn)
  · intro φ n
    have := all2_map (R := BR φ n) (f := xav) (g := id) (l := xval w q.1 q.2.1) fun x hx => by
      have := List.all_eq_true.mp o2 x hx
      refine xa2 (Bool.and_eq_true_iff.mp this) fun h1 h2 => ?_
      refine xe2 (isI_eq h2) fun i t e => ?_
      refine ⟨kn_KN h1, ?_⟩
      show VR φ n (match x.2 with | .int i _ => AV.int i | _ => .none) x.2
      rw [e]
      exact ⟨t, rfl⟩
    rwa [List.map_id] at this
  · have := all2_map (R := fun (c : Nat) (q : Str × Addr) => KN c q.1) (f := fun c : Str × Addr => nc c.1) (g := id) (l := fcells w q.1) fun x hx => kn_KN (List.all_eq_true.mp o5 x hx)
    rwa [List.map_id] at this
theorem law_fnD (w : World) (D : ST) : fnD (((pnames w 659).take 1).map nc) ((xval w 659 1).map xav) ((fcells w 659).map fun c => nc c.1) D = fnD [81] [] [98, 89, 66, 20] D := by kernel_rfl
theorem law_start {sa : Addr} : fnD [81] [] [98, 89, 66, 20] (lawD sa) [.glob sa] ⟨tabL, 4⟩ = .ok (.bool true) ⟨tabL, 8⟩ := by
  refine fnD_ex rfl ⟨⟨[], [(98, 7), (89, 6), (66, 5), (20, 4)]⟩, ?_⟩
  have e1 : (⟨([81].zip [AV.glob sa] ++ []).filter fun p => !([98, 89, 66, 20].contains p.1), (cellsD ([81].zip [AV.glob sa] ++ []) [98, 89, 66, 20] ⟨tabL, 4⟩).1⟩ : Frm) = Fl0 sa := by kernel_rfl
  have e2 : (cellsD ([81].zip [AV.glob sa] ++ []) [98, 89, 66, 20] ⟨tabL, 4⟩).2 = Hl0 := by kernel_rfl
  rw [e1, e2]
  unfold lawD
  rw [if_pos ⟨rfl, rfl⟩]
/-- the law ends and says True -/
theorem law_SF (GD : Gd w p loose mean mg mb G0) {scr : Addr × List Int} (hs : ScrOk G0 scr) (r : Nat) : SF w G0 (4 * (r + 11) + 2) true (.ref 659) (fnD [81] [] [98, 89, 66, 20] (lawD scr.1)) := by
  have h := SF_own GD (lv := 4 * (r + 11) + 1) (q := (659, 1, some (658, 656, 3))) (fk_659 w GD.C) true (D := lawD scr.1) (fun st hst => law_SSs GD hs hst)
  rw [law_fnD] at h
  exact h
end
end Mine
end
-- M98
section
open PySem PySem.W PyProof.Rows PySem.Calls PySem.Spec
set_option Elab.async false
namespace Mine
set_option maxRecDepth 100000
set_option maxHeartbeats 4000000
noncomputable def phi4 : Nat → Addr := fun i => if i = 0 then 637 else if i = 1 then 632 else if i = 2 then 594 else 656
theorem tab4_lr {w : World} : LR phi4 w [] ⟨tabL, 4⟩ [(637, tabObj #[]), (632, tabObj #[]), (594, tabObj #[]), (656, tabObj #[])] := by
  have ids : ∀ p ∈ tabL, p.1 ∈ [0, 1, 2, 3] := fun p hp => by
    have := List.mem_map_of_mem (f := (·.1)) hp
    exact this
  have one : ∀ i P, i < 4 → phi4 i = P → OR phi4 4 w (.tab i P) (tabObj #[]) := fun i P h1 h2 => ⟨h1, h2, #[], rfl, .nil⟩
  refine ⟨[], ⟨⟨_, rfl, .cons ⟨rfl, one 0 637 (by decide) rfl⟩ (.cons ⟨rfl, one 1 632 (by decide) rfl⟩ (.cons ⟨rfl, one 2 594 (by decide) rfl⟩ (.cons ⟨rfl, one 3 656 (by decide) rfl⟩ .nil)))⟩, fun _ _ _ h => (nomatch h), fun p hp => ?_, fun p hp q hq e => ?_, ?_⟩, fun _ h => (nomatch h), fun p hp o ho c hr => ?_⟩
  · have : ∀ i ∈ ([0, 1, 2, 3] : List Nat), i < 4 := by decide
    exact this _ (ids p hp)
  · have : ∀ i ∈ ([0, 1, 2, 3] : List Nat), ∀ j ∈ ([0, 1, 2, 3] : List Nat), phi4 i = phi4 j → i = j := by decide
    exact this _ (ids p hp) _ (ids q hq) e
  · show ([0, 1, 2, 3] : List Nat).Nodup; decide
  · have ho' : o = tabObj #[] := by
      simp only [List.mem_cons, Prod.mk.injEq, List.not_mem_nil, or_false] at ho
      rcases ho with ⟨_, h⟩ | ⟨_, h⟩ | ⟨_, h⟩ | ⟨_, h⟩ <;> exact h
    subst ho'
    simp only [List.mem_cons, List.not_mem_nil, or_false] at hp
    have no : (∃ ps, tabObj #[] = tabObj ps ∧ Value.ref c ∈ ps.toList) → False := fun ⟨ps, h1, h2⟩ => by
      unfold tabObj at h1
      have := Data.fields.inj (Obj.mk.inj h1).2.2.1
      rw [← this] at h2
      contradiction
    rcases hp with rfl | rfl | rfl | rfl <;> exact (no hr).elim
theorem grown4 {w : World} {φ φ' : Nat → Addr} {n : Nat} {news news' fs : List (Addr × Obj)} {s s' : Shared} (l : Left w [] φ n news fs s φ' ⟨tabL, 8⟩ s' news') : GrownAll tabs4 s'.heap := by
  have go : ∀ i P, Hp.get ⟨tabL, 8⟩ i = some (.tab i P) → GrownAt P s'.heap := fun i P h => by
    obtain ⟨o, h1, h2, h3, ps, rfl, _⟩ := l.lr.get h
    have := (l.there _ h1).1
    exact ⟨ps, by rw [← h3]; exact this⟩
  exact ⟨go 0 637 rfl, go 1 632 rfl, go 2 594 rfl, go 3 656 rfl, trivial⟩
theorem law_holds : PySem.Challenge.rw_nu0095_01.Holds := by
  refine hd ?_
  k_fill
  intro w s₀ s₁ mg mb G Y fa o pm cd doc dV kV ho hd' hcd hD hmg hgn args vals as hpre hlay hrd hwl hlo
  have KX := km_in_of Y
  km_tabs Y
  have X := (Ground.X G).1
  have V := (Ground.X G).2
  refine Ground.open G ?_
  intro T B D TE TW
  try (refine guard_noD D (by decide +kernel) ?_; clear D)
  km_lay T hmg ho hd' cd
  wrow_args hpre hlay hrd hwl hlo
  clear hD hd' hcd
  rename_i ns hs0 hlay0 hLy hrr hl2 a4 a3 sa vs a0 hL ra w1 r0 hI hr hc1 hc2
  refine enter_call ?_
  w_top on
  kn_posts
  have e659 : fa = 659 := by
    have h := mg_of (n := ("law" : Str)) (v := .ref 659) KX (Top.g T) (by kernel_rfl)
    rw [show mg ("law" : Str) = some (.ref fa) from hmg] at h
    exact Value.ref.inj (Option.some.inj h)
  subst e659
  have hk : noTabs (hd.heap_39 w.params) = true := by kernel_rfl
  have GD : Gd w topProg _ _ mg mb (ghostOf s₁.heap tabs4) := ⟨ghost_K hT9 KX hk, ghost_top hT9 T, ghost_code hT9⟩
  have hs : ScrOk (ghostOf s₁.heap tabs4) (sa, ns) := ⟨⟨vs, ghost_list hT9 hL, hI⟩, by show ns.length ≤ 1000; omega⟩
  have hS := law_SF GD hs 1
  have hDe := law_start (sa := sa)
  have t1 := hT8 637 (by decide)
  have t2 := hT8 632 (by decide)
  have t3 := hT8 594 (by decide)
  have t4 := hT8 656 (by decide)
  refine hS [] callerA [] [] s₁ phi4 ⟨tabL, 4⟩ [(637, tabObj #[]), (632, tabObj #[]), (594, tabObj #[]), (656, tabObj #[])] _ [.glob sa] [.ref sa] ⟨fun _ => rfl, rfl, by decide +kernel, by decide +kernel, fun _ h => (nomatch h), fun _ h => (nomatch h), fun b o e => of_hideAll _ e, ?_, ?_⟩ (.cons rfl .nil) ?_
  · exact tab4_lr
  · intro q hq
    simp only [List.mem_cons, List.not_mem_nil, or_false] at hq
    rcases hq with rfl | rfl | rfl | rfl
    · exact ⟨t1, hideAll_none _ (by decide)⟩
    · exact ⟨t2, hideAll_none _ (by decide)⟩
    · exact ⟨t3, hideAll_none _ (by decide)⟩
    · exact ⟨t4, hideAll_none _ (by decide)⟩
  · rw [hDe]
    intro φ' s' news' u l hu
    subst hu
    refine ⟨⟨.inl ⟨.bool true, .bool true, [], rfl, fun _ => rfl, .bool true, by kernel_rfl, fun _ => ⟨.nil, fun _ h => (nomatch h)⟩⟩, fun b o e => ?_, l.same.2.2, l.same.1.trans hgn⟩, grown4 l⟩
    refine l.kept b o (of_hideAll _ e) (fun hm => ?_) (fun hm => (nomatch hm))
    have hn : (hideAll s₁.heap (tabs4.map (·.2))).get? b = none := hideAll_none _ hm
    rw [show (hideAll s₁.heap (tabs4.map (·.2))).get? b = some o from e] at hn
    exact no_some8 hn
end Mine
end
theorem PySem.Challenge.cw_nu0095_01_holds : PySem.Challenge.rw_nu0095_01.Holds :=
  Mine.law_holds
