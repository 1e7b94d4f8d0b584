import PyProof.Rows.All
import Wide.All
import OpenK.KWith
import OpenK.KLine
import OpenK.KMore
import OpenK.KMake
import OpenK.KGet
import OpenK.Peek
import OpenK.KCls
import KE.KWords
import KE.BytesMake
import KE.KDictOf
import KE.IntBitsLaws
import KE.KIsAll
import KE.KBytesWalk
import KE.KItem
import Lean
import PySem.Challenge.RW_nn0156_01
set_option Elab.async false
set_option maxRecDepth 100000
set_option linter.unusedVariables false
set_option linter.all false
set_option compiler.extract_closed false
set_option bootstrap.genMatcherCode false
set_option genSizeOf false
set_option genSizeOfSpec false
set_option genInjectivity false
set_option genCtorIdx false
section
open PySem PySem.W PyProof.Rows
set_option maxHeartbeats 0
def PySem.W.Fast.tw861502493610598483 : Unit := ()
def PySem.W.Fast.tw6410535254896278334 : Unit := ()
def PySem.W.Fast.tw13769103115541136327 : Unit := ()
def PySem.W.Fast.tw15127105006835628225 : Unit := ()
def PySem.W.Fast.tw9495317472360511255 : Unit := ()
def PySem.W.Fast.tw5362036446546632119 : Unit := ()
def PySem.W.Fast.tw11401859456886640639 : Unit := ()
def PySem.W.Fast.tw6356304189028158447 : Unit := ()
def PySem.W.Fast.tw14243238205550065757 : Unit := ()
def PySem.W.Fast.tw12382822922155266910 : Unit := ()
def PySem.W.Fast.tw8285278889055680438 : Unit := ()
def PySem.W.Fast.tw6522051377940421278 : Unit := ()
def PySem.W.Fast.tw16140922888777852060 : Unit := ()
def PySem.W.Fast.tw8972062959192195235 : Unit := ()
def PySem.W.Fast.tw3382625519597670723 : Unit := ()
def PySem.W.Fast.tw16955839230299176341 : Unit := ()
def PySem.W.Fast.tw8949853181751564097 : Unit := ()
def PySem.W.Fast.tw15861351967447197489 : Unit := ()
def PySem.W.Fast.tw446995266069924076 : Unit := ()
def PySem.W.Fast.tw10258873121960336067 : Unit := ()
def PySem.W.Fast.tw12330612334027959195 : Unit := ()
def PySem.W.Fast.tw2941924889016668590 : Unit := ()
def PySem.W.Fast.tw7086961617601330827 : Unit := ()
def PySem.W.Fast.tw8899516883271353254 : Unit := ()
def PySem.W.Fast.tw8219003486749837733 : Unit := ()
def PySem.W.Fast.tw10510056951384868246 : Unit := ()
def PySem.W.Fast.tw1495895850433845275 : Unit := ()
def PySem.W.Fast.tw14904681115217272601 : Unit := ()
def PySem.W.Fast.tw8733291241859026926 : Unit := ()
def PySem.W.Fast.tw2187251505897268136 : Unit := ()
def PySem.W.Fast.tw11429584451438056573 : Unit := ()
def PySem.W.Fast.tw8047209995159408440 : Unit := ()
def PySem.W.Fast.tw16723463757517087524 : Unit := ()
def PySem.W.Fast.tw1383625962624193546 : Unit := ()
def PySem.W.Fast.tw2261719852989239553 : Unit := ()
def PySem.W.Fast.tw87601786513091389 : Unit := ()
def PySem.W.Fast.tw4547051000311932777 : Unit := ()
def PySem.W.Fast.tw2455152089536381482 : Unit := ()
def PySem.W.Fast.tw9536688357841153863 : Unit := ()
def PySem.W.Fast.tw15779231459743154856 : Unit := ()
def PySem.W.Fast.tw10519837036962490867 : Unit := ()
def PySem.W.Fast.tw12903330217458380548 : Unit := ()
def PySem.W.Fast.tw9848817304349107530 : Unit := ()
def PySem.W.Fast.tw11266997524610791606 : Unit := ()
def PySem.W.Fast.tw11962351593759143498 : Unit := ()
def PySem.W.Fast.tw4849480874435393781 : Unit := ()
def PySem.W.Fast.tw3721919958574915784 : Unit := ()
def PySem.W.Fast.tw4906484309439969231 : Unit := ()
def PySem.W.Fast.tw5537553045615171315 : Unit := ()
def PySem.W.Fast.tw4684226298888400098 : Unit := ()
def PySem.W.Fast.tw16120054744476736488 : Unit := ()
def PySem.W.Fast.tw7480016910919988345 : Unit := ()
def PySem.W.Fast.tw140236481695663071 : Unit := ()
def PySem.W.Fast.tw2080317491765294665 : Unit := ()
def PySem.W.Fast.tw15173544498738437827 : Unit := ()
def PySem.W.Fast.tw11738243743197964597 : Unit := ()
def PySem.W.Fast.tw1000662321505670351 : Unit := ()
def PySem.W.Fast.tw6858818405166986180 : Unit := ()
def PySem.W.Fast.tw6148498323302512570 : Unit := ()
def PySem.W.Fast.tw18418582437962087742 : Unit := ()
def PySem.W.Fast.tw12887044766017154078 : Unit := ()
def PySem.W.Fast.tw13946496683202179788 : Unit := ()
def PySem.W.Fast.tw8374155422468719031 : Unit := ()
def PySem.W.Fast.tw15685335758407661847 : Unit := ()
def PySem.W.Fast.tw14564479935002850509 : Unit := ()
def PySem.W.Fast.tw9972681490609642005 : Unit := ()
def PySem.W.Fast.tw1950803216711332702 : Unit := ()
def PySem.W.Fast.tw3300257896294614128 : Unit := ()
def PySem.W.Fast.tw5344687154915797982 : Unit := ()
def PySem.W.Fast.tw443766864951011646 : Unit := ()
def PySem.W.Fast.tw8157277791214410489 : Unit := ()
def PySem.W.Fast.tw8080008513338510535 : Unit := ()
def PySem.W.Fast.tw13055953723892786844 : Unit := ()
def PySem.W.Fast.tw6968137755033780318 : Unit := ()
def PySem.W.Fast.tw1708089923452030704 : Unit := ()
def PySem.W.Fast.tw5002640475654186023 : Unit := ()
def PySem.W.Fast.tw13674586047789940208 : Unit := ()
def PySem.W.Fast.tw11384182702204212275 : Unit := ()
def PySem.W.Fast.tw11907897558876765624 : Unit := ()
def PySem.W.Fast.tw15254633091992210921 : Unit := ()
def PySem.W.Fast.tw18146532975450069615 : Unit := ()
def PySem.W.Fast.tw5072417060200589145 : Unit := ()
def PySem.W.Fast.tw15438627641174518403 : Unit := ()
def PySem.W.Fast.tw13913613514976480042 : Unit := ()
def PySem.W.Fast.tw4436474186459923750 : Unit := ()
def PySem.W.Fast.tw14664691819916384248 : Unit := ()
def PySem.W.Fast.tw5667099127317398114 : Unit := ()
def PySem.W.Fast.tw6105849179199505303 : Unit := ()
def PySem.W.Fast.tw17817366049700826239 : Unit := ()
def PySem.W.Fast.tw1979317910248211280 : Unit := ()
def PySem.W.Fast.tw12954591660760965231 : Unit := ()
def PySem.W.Fast.tw5890639436620234070 : Unit := ()
def PySem.W.Fast.tw13053770412826190925 : Unit := ()
def PySem.W.Fast.tw12770481643036789091 : Unit := ()
def PySem.W.Fast.tw10879749546641988924 : Unit := ()
def PySem.W.Fast.tw1070438729232803039 : Unit := ()
def PySem.W.Fast.tw12768989823518198380 : Unit := ()
def PySem.W.Fast.tw9402243437249704421 : Unit := ()
def PySem.W.Fast.tw384561282630992784 : Unit := ()
def PySem.W.Fast.tw8737599933303070863 : Unit := ()
def PySem.W.Fast.tw4323258101793500111 : Unit := ()
def PySem.W.Fast.tw539538531456391632 : Unit := ()
def PySem.W.Fast.tw4015202173357781934 : Unit := ()
def PySem.W.Fast.tw4493901809537577575 : Unit := ()
def PySem.W.Fast.tw13547939009206843870 : Unit := ()
def PySem.W.Fast.tw2399617604181995578 : Unit := ()
def PySem.W.Fast.tw12670982853097334264 : Unit := ()
def PySem.W.Fast.tw6056707288978253535 : Unit := ()
def PySem.W.Fast.tw10159399881129095643 : Unit := ()
def PySem.W.Fast.tw11692469974320434101 : Unit := ()
def PySem.W.Fast.tw15805137534098808535 : Unit := ()
def PySem.W.Fast.tw15590096980072825465 : Unit := ()
def PySem.W.Fast.tw6420159726195949164 : Unit := ()
def PySem.W.Fast.tw9950792792127014553 : Unit := ()
def PySem.W.Fast.tw14404928986312190071 : Unit := ()
def PySem.W.Fast.tw3671519592330383864 : Unit := ()
def PySem.W.Fast.tw1599053048872161195 : Unit := ()
def PySem.W.Fast.tw3374319085511977134 : Unit := ()
def PySem.W.Fast.tw11024694936033576346 : Unit := ()
def PySem.W.Fast.tw12147665669636231765 : Unit := ()
def PySem.W.Fast.tw8535803893964050539 : Unit := ()
def PySem.W.Fast.tw2474200967059427378 : Unit := ()
def PySem.W.Fast.tw6162269159774324313 : Unit := ()
def PySem.W.Fast.tw13861969467909019144 : Unit := ()
def PySem.W.Fast.tw14727194681476072466 : Unit := ()
def PySem.W.Fast.tw4309217394794523951 : Unit := ()
def PySem.W.Fast.tw855453113358079251 : Unit := ()
def PySem.W.Fast.tw2259672571474061568 : Unit := ()
def PySem.W.Fast.tw6030501089693204938 : Unit := ()
def PySem.W.Fast.tw5323657890516693427 : Unit := ()
def PySem.W.Fast.tw17678831435119133177 : Unit := ()
def PySem.W.Fast.tw6128145076113358165 : Unit := ()
def PySem.W.Fast.tw2358075552688931204 : Unit := ()
def PySem.W.Fast.tw547895379624588593 : Unit := ()
def PySem.W.Fast.tw2694234056635809718 : Unit := ()
def PySem.W.Fast.tw4859391219904099992 : Unit := ()
def PySem.W.Fast.tw1142673529048489019 : Unit := ()
def PySem.W.Fast.tw11662115353561507501 : Unit := ()
def PySem.W.Fast.tw16728255500844073214 : Unit := ()
def PySem.W.Fast.tw16203965252921439515 : Unit := ()
def PySem.W.Fast.tw3778530596728393105 : Unit := ()
def PySem.W.Fast.tw14170518179582410385 : Unit := ()
def PySem.W.Fast.tw15235614512728720 : Unit := ()
def PySem.W.Fast.tw3049343062529576306 : Unit := ()
def PySem.W.Fast.tw7485256538410118956 : Unit := ()
def PySem.W.Fast.tw1207101557538958131 : Unit := ()
def PySem.W.Fast.tw8171798328758944481 : Unit := ()
def PySem.W.Fast.tw2741014181512449073 : Unit := ()
def PySem.W.Fast.tw2692750590507578028 : Unit := ()
def PySem.W.Fast.tw10741264400317747893 : Unit := ()
def PySem.W.Fast.tw561727478393794602 : Unit := ()
def PySem.W.Fast.tw18293242582946804979 : Unit := ()
def PySem.W.Fast.tw4189273013823423559 : Unit := ()
def PySem.W.Fast.tw14746253646979254834 : Unit := ()
def PySem.W.Fast.tw1293241653719404408 : Unit := ()
def PySem.W.Fast.tw16873086082458093902 : Unit := ()
def PySem.W.Fast.tw15554417296805563061 : Unit := ()
def PySem.W.Fast.tw9646623106273453227 : Unit := ()
def PySem.W.Fast.tw15166322114958858414 : Unit := ()
def PySem.W.Fast.tw17339309145561079191 : Unit := ()
def PySem.W.Fast.tw1607123104830579860 : Unit := ()
def PySem.W.Fast.tw7374399212775623666 : Unit := ()
def PySem.W.Fast.tw17659185236578331656 : Unit := ()
def PySem.W.Fast.tw3099597729799864441 : Unit := ()
def PySem.W.Fast.tw8565224436197482051 : Unit := ()
def PySem.W.Fast.tw6702445572142316249 : Unit := ()
def PySem.W.Fast.tw8331849164307833061 : Unit := ()
def PySem.W.Fast.tw10295913840692754127 : Unit := ()
def PySem.W.Fast.tw9630203353718772412 : Unit := ()
def PySem.W.Fast.tw1922157984580058403 : Unit := ()
def PySem.W.Fast.tw16721508838639397229 : Unit := ()
def PySem.W.Fast.tw4483904966330829159 : Unit := ()
def PySem.W.Fast.tw12188032599808994241 : Unit := ()
def PySem.W.Fast.tw2492000799826889573 : Unit := ()
def PySem.W.Fast.tw819570635367399668 : Unit := ()
def PySem.W.Fast.tw5467331546851215429 : Unit := ()
def PySem.W.Fast.tw3365755272349913518 : Unit := ()
def PySem.W.Fast.tw12138319994727072339 : Unit := ()
def PySem.W.Fast.tw6542358382571353910 : Unit := ()
def PySem.W.Fast.tw13669536469129627823 : Unit := ()
def PySem.W.Fast.tw8318101203651539667 : Unit := ()
def PySem.W.Fast.tw6607644564249050058 : Unit := ()
def PySem.W.Fast.tw3110587219445414310 : Unit := ()
def PySem.W.Fast.tw7933485763601977624 : Unit := ()
def PySem.W.Fast.tw514280064592716601 : Unit := ()
def PySem.W.Fast.tw1401067106901849026 : Unit := ()
def PySem.W.Fast.tw17691633702590694504 : Unit := ()
def PySem.W.Fast.tw8432719020341155521 : Unit := ()
def PySem.W.Fast.tw1835071406663858368 : Unit := ()
def PySem.W.Fast.tw17267597263503486738 : Unit := ()
def PySem.W.Fast.tw14196522196718054806 : Unit := ()
def PySem.W.Fast.tw10888863842102328177 : Unit := ()
def PySem.W.Fast.tw16753820520455620202 : Unit := ()
def PySem.W.Fast.tw5289818103960998278 : Unit := ()
def PySem.W.Fast.tw14577027041581768965 : Unit := ()
def PySem.W.Fast.tw16860917588515726111 : Unit := ()
def PySem.W.Fast.tw8995945545434573385 : Unit := ()
def PySem.W.Fast.tw6408400580700104982 : Unit := ()
def PySem.W.Fast.tw4334401890000744311 : Unit := ()
def PySem.W.Fast.tw13831308528885131752 : Unit := ()
def PySem.W.Fast.tw14560624547652848805 : Unit := ()
def PySem.W.Fast.tw17348111734160510231 : Unit := ()
def PySem.W.Fast.tw866652123128751154 : Unit := ()
def PySem.W.Fast.tw18383651708701053236 : Unit := ()
def PySem.W.Fast.tw9399754086935153974 : Unit := ()
def PySem.W.Fast.tw3985964047577975286 : Unit := ()
def PySem.W.Fast.tw354308444213283272 : Unit := ()
def PySem.W.Fast.tw17852080271459398996 : Unit := ()
def PySem.W.Fast.tw14782954611325821827 : Unit := ()
def PySem.W.Fast.tw12528533614272120300 : Unit := ()
def PySem.W.Fast.tw7217548393331319763 : Unit := ()
def PySem.W.Fast.tw13307065042914920193 : Unit := ()
def PySem.W.Fast.tw8752102160057688731 : Unit := ()
def PySem.W.Fast.tw5274481202262711730 : Unit := ()
def PySem.W.Fast.tw1998347030407657756 : Unit := ()
def PySem.W.Fast.tw14154597600763967237 : Unit := ()
def PySem.W.Fast.tw13567515925198824819 : Unit := ()
def PySem.W.Fast.tw13394580363473044415 : Unit := ()
def PySem.W.Fast.tw7007286002206832825 : Unit := ()
def PySem.W.Fast.tw15142666989864626641 : Unit := ()
def PySem.W.Fast.tw8924819469995637033 : Unit := ()
def PySem.W.Fast.tw2629151800749243262 : Unit := ()
def PySem.W.Fast.tw14859695947638507448 : Unit := ()
def PySem.W.Fast.tw6084841979344569690 : Unit := ()
def PySem.W.Fast.tw14341141199694864594 : Unit := ()
def PySem.W.Fast.tw10861573186032746274 : Unit := ()
def PySem.W.Fast.tw17062427158221528723 : Unit := ()
def PySem.W.Fast.tw6851275008772768644 : Unit := ()
def PySem.W.Fast.tw3075201292733833056 : Unit := ()
def PySem.W.Fast.tw11824586356888161845 : Unit := ()
def PySem.W.Fast.tw13367274342830030513 : Unit := ()
def PySem.W.Fast.tw14647417624928369756 : Unit := ()
def PySem.W.Fast.tw14849461344987154502 : Unit := ()
def PySem.W.Fast.tw17658959251048325594 : Unit := ()
def PySem.W.Fast.tw9104974531708491489 : Unit := ()
def PySem.W.Fast.tw14061609134260724683 : Unit := ()
def PySem.W.Fast.tw5634867526602368427 : Unit := ()
def PySem.W.Fast.tw211337195705725219 : Unit := ()
def PySem.W.Fast.tw6125853113672642322 : Unit := ()
def PySem.W.Fast.tw463774138113389760 : Unit := ()
def PySem.W.Fast.tw8212203176049278890 : Unit := ()
def PySem.W.Fast.tw9317495090193701157 : Unit := ()
def PySem.W.Fast.tw5217270863462422736 : Unit := ()
def PySem.W.Fast.tw12669407529647801677 : Unit := ()
def PySem.W.Fast.tw6046103115902281144 : Unit := ()
def PySem.W.Fast.tw7538781388859322016 : Unit := ()
def PySem.W.Fast.tw17916429707943930468 : Unit := ()
def PySem.W.Fast.tw6327569006664949090 : Unit := ()
def PySem.W.Fast.tw18105302477358141223 : Unit := ()
def PySem.W.Fast.tw6124413428159637790 : Unit := ()
def PySem.W.Fast.tw17397653436517662659 : Unit := ()
def PySem.W.Fast.tw18310463660012746435 : Unit := ()
def PySem.W.Fast.tw15565715512253457277 : Unit := ()
def PySem.W.Fast.tw12549542988036985293 : Unit := ()
def PySem.W.Fast.tw7592715696027808041 : Unit := ()
def PySem.W.Fast.tw12550775161083096063 : Unit := ()
def PySem.W.Fast.tw8319933024895762948 : Unit := ()
def PySem.W.Fast.tw9433028549170029634 : Unit := ()
def PySem.W.Fast.tw6828597562223498359 : Unit := ()
def PySem.W.Fast.tw6631347999910079877 : Unit := ()
def PySem.W.Fast.tw13813618637161013713 : Unit := ()
def PySem.W.Fast.tw10539347186207431242 : Unit := ()
def PySem.W.Fast.tw16132249320637822498 : Unit := ()
def PySem.W.Fast.tw18003772858949239459 : Unit := ()
def PySem.W.Fast.tw12020253756985099128 : Unit := ()
def PySem.W.Fast.tw13631397514672939371 : Unit := ()
def PySem.W.Fast.tw13557862171009465336 : Unit := ()
def PySem.W.Fast.tw14329579894275425762 : Unit := ()
def PySem.W.Fast.tw172746767574481773 : Unit := ()
def PySem.W.Fast.tw12884060626414724322 : Unit := ()
def PySem.W.Fast.tw9201617497623189827 : Unit := ()
def PySem.W.Fast.tw10282777137419654623 : Unit := ()
def PySem.W.Fast.tw4884199854448574 : Unit := ()
def PySem.W.Fast.tw13348088958985639553 : Unit := ()
def PySem.W.Fast.tw5395340147747708899 : Unit := ()
def PySem.W.Fast.tw10576836333797772347 : Unit := ()
def PySem.W.Fast.tw11205608169257636508 : Unit := ()
def PySem.W.Fast.tw9381626543082597023 : Unit := ()
def PySem.W.Fast.tw17590876675597686902 : Unit := ()
def PySem.W.Fast.tw10016166984437732892 : Unit := ()
def PySem.W.Fast.tw5694767641087392711 : Unit := ()
def PySem.W.Fast.tw8392358500681263680 : Unit := ()
def PySem.W.Fast.tw5438652380644606353 : Unit := ()
def PySem.W.Fast.tw10470340158578859262 : Unit := ()
def PySem.W.Fast.tw10161179621583223854 : Unit := ()
def PySem.W.Fast.tw18400553757987027518 : Unit := ()
def PySem.W.Fast.tw1891733041441978011 : Unit := ()
def PySem.W.Fast.tw2078950565319712143 : Unit := ()
def PySem.W.Fast.tw16101134707931498060 : Unit := ()
def PySem.W.Fast.tw3801850119919557013 : Unit := ()
def PySem.W.Fast.tw1630143524128594353 : Unit := ()
def PySem.W.Fast.tw3433779192033484610 : Unit := ()
def PySem.W.Fast.tw5522115075389312692 : Unit := ()
def PySem.W.Fast.tw7181997581385953548 : Unit := ()
def PySem.W.Fast.tw8278001386518606062 : Unit := ()
def PySem.W.Fast.tw3676754643040562684 : Unit := ()
def PySem.W.Fast.tw5874822333441161849 : Unit := ()
def PySem.W.Fast.tw14607143338591219252 : Unit := ()
def PySem.W.Fast.tw5233118043267047457 : Unit := ()
def PySem.W.Fast.tw14801369171006070438 : Unit := ()
def PySem.W.Fast.tw506581581156960101 : Unit := ()
def PySem.W.Fast.tw6208910965292489261 : Unit := ()
def PySem.W.Fast.tw16109456028575089023 : Unit := ()
def PySem.W.Fast.tw14617222483516278133 : Unit := ()
def PySem.W.Fast.tw15771247859494662083 : Unit := ()
def PySem.W.Fast.tw6331431999304432861 : Unit := ()
def PySem.W.Fast.tw13298828918039433023 : Unit := ()
def PySem.W.Fast.tw5920806927976990809 : Unit := ()
def PySem.W.Fast.tw622995879521568732 : Unit := ()
def PySem.W.Fast.tw18248855084332350957 : Unit := ()
def PySem.W.Fast.tw2956708394376553000 : Unit := ()
def PySem.W.Fast.tw2015444344454546412 : Unit := ()
def PySem.W.Fast.tw7476452910721959123 : Unit := ()
def PySem.W.Fast.tw13032259773685033708 : Unit := ()
def PySem.W.Fast.tw10149570385669482864 : Unit := ()
def PySem.W.Fast.tw4382473104129494423 : Unit := ()
def PySem.W.Fast.tw14226173905949225808 : Unit := ()
def PySem.W.Fast.tw7873786274422454737 : Unit := ()
def PySem.W.Fast.tw4470585836733325578 : Unit := ()
def PySem.W.Fast.tw4063829332388037331 : Unit := ()
def PySem.W.Fast.tw10911716485165742097 : Unit := ()
def PySem.W.Fast.tw15733337929971156237 : Unit := ()
def PySem.W.Fast.tw4186743451310774866 : Unit := ()
def PySem.W.Fast.tw14703100239697439463 : Unit := ()
def PySem.W.Fast.tw727553628536289456 : Unit := ()
def PySem.W.Fast.tw2392593158011319353 : Unit := ()
def PySem.W.Fast.tw9530734954097333506 : Unit := ()
def PySem.W.Fast.tw14479964200598819128 : Unit := ()
def PySem.W.Fast.tw13710940844802916613 : Unit := ()
def PySem.W.Fast.tw14935156969734317764 : Unit := ()
def PySem.W.Fast.tw14332157829676619468 : Unit := ()
def PySem.W.Fast.tw5610444585433571239 : Unit := ()
def PySem.W.Fast.tw8909772338491405060 : Unit := ()
def PySem.W.Fast.tw14398111036562950334 : Unit := ()
def PySem.W.Fast.tw2353497105660221152 : Unit := ()
def PySem.W.Fast.tw17823556299335049440 : Unit := ()
def PySem.W.Fast.tw15475723433398761304 : Unit := ()
def PySem.W.Fast.tw2046362190076281809 : Unit := ()
def PySem.W.Fast.tw5221592684559293012 : Unit := ()
def PySem.W.Fast.tw17360015989920007124 : Unit := ()
def PySem.W.Fast.tw12921946191010883867 : Unit := ()
def PySem.W.Fast.tw3641951560692057861 : Unit := ()
def PySem.W.Fast.tw16005714805435085966 : Unit := ()
def PySem.W.Fast.tw16839002366802243188 : Unit := ()
def PySem.W.Fast.tw2868442198168577507 : Unit := ()
def PySem.W.Fast.tw5342471268416680606 : Unit := ()
def PySem.W.Fast.tw5832146486336120021 : Unit := ()
def PySem.W.Fast.tw8274446707539698164 : Unit := ()
def PySem.W.Fast.tw14594842627406614536 : Unit := ()
def PySem.W.Fast.tw15621116118777243554 : Unit := ()
def PySem.W.Fast.tw10988764466652934233 : Unit := ()
def PySem.W.Fast.tw18004296560267143027 : Unit := ()
def PySem.W.Fast.tw12369848792361866835 : Unit := ()
def PySem.W.Fast.tw206757683497733573 : Unit := ()
def PySem.W.Fast.tw18407495941553956032 : Unit := ()
def PySem.W.Fast.tw2810200551564342888 : Unit := ()
def PySem.W.Fast.tw699815216081779126 : Unit := ()
def PySem.W.Fast.tw296083027919845158 : Unit := ()
def PySem.W.Fast.tw3436067635600285980 : Unit := ()
def PySem.W.Fast.tw12826555694032677247 : Unit := ()
def PySem.W.Fast.tw17862349074038704544 : Unit := ()
def PySem.W.Fast.tw7053471978191194526 : Unit := ()
def PySem.W.Fast.tw13810262117814702294 : Unit := ()
def PySem.W.Fast.tw17016834523296244275 : Unit := ()
def PySem.W.Fast.tw4449297822257671152 : Unit := ()
def PySem.W.Fast.tw14785633479632635281 : Unit := ()
def PySem.W.Fast.tw11434409910335936926 : Unit := ()
def PySem.W.Fast.tw14036186469904095446 : Unit := ()
def PySem.W.Fast.tw18384110700954362821 : Unit := ()
def PySem.W.Fast.tw987426779421491659 : Unit := ()
def PySem.W.Fast.tw9215358943560890414 : Unit := ()
def PySem.W.Fast.tw2295934692909999376 : Unit := ()
def PySem.W.Fast.tw11308061921803828041 : Unit := ()
def PySem.W.Fast.tw4408816720484365081 : Unit := ()
def PySem.W.Fast.tw4565167180653195659 : Unit := ()
def PySem.W.Fast.tw14135006944967825841 : Unit := ()
def PySem.W.Fast.tw1986786360949550309 : Unit := ()
def PySem.W.Fast.tw10026605065719503897 : Unit := ()
def PySem.W.Fast.tw6526287140368922620 : Unit := ()
def PySem.W.Fast.tw14938211915633500526 : Unit := ()
def PySem.W.Fast.tw5008593111378822452 : Unit := ()
def PySem.W.Fast.tw16145670418848962200 : Unit := ()
def PySem.W.Fast.tw11267315532378154396 : Unit := ()
def PySem.W.Fast.tw7249310025045793396 : Unit := ()
def PySem.W.Fast.tw11766667032028208565 : Unit := ()
def PySem.W.Fast.tw15052318979288761249 : Unit := ()
def PySem.W.Fast.tw609457278022895560 : Unit := ()
def PySem.W.Fast.tw6145912378217320015 : Unit := ()
def PySem.W.Fast.tw7900394595670775223 : Unit := ()
def PySem.W.Fast.tw6188973233030003785 : Unit := ()
def PySem.W.Fast.tw12930229547647579594 : Unit := ()
def PySem.W.Fast.tw16531682779099013679 : Unit := ()
def PySem.W.Fast.tw651700358538967526 : Unit := ()
def PySem.W.Fast.tw13459084325293418506 : Unit := ()
def PySem.W.Fast.tw5137589814051832496 : Unit := ()
def PySem.W.Fast.tw16060203290454839817 : Unit := ()
def PySem.W.Fast.tw13861322856664149509 : Unit := ()
def PySem.W.Fast.tw18335596039185421423 : Unit := ()
def PySem.W.Fast.tw8757050672659960515 : Unit := ()
def PySem.W.Fast.tw8006371003960147343 : Unit := ()
def PySem.W.Fast.tw5444512763150141072 : Unit := ()
def PySem.W.Fast.tw360634875079729221 : Unit := ()
def PySem.W.Fast.tw10550934584343373414 : Unit := ()
def PySem.W.Fast.tw15504105790966721872 : Unit := ()
def PySem.W.Fast.tw17312402878845073609 : Unit := ()
def PySem.W.Fast.tw16035376269474964883 : Unit := ()
def PySem.W.Fast.tw4538635040379822027 : Unit := ()
def PySem.W.Fast.tw2773992215795510196 : Unit := ()
def PySem.W.Fast.tw11219443903484984970 : Unit := ()
def PySem.W.Fast.tw7764699552788554220 : Unit := ()
def PySem.W.Fast.tw12058884036946728934 : Unit := ()
def PySem.W.Fast.tw4102176305081739490 : Unit := ()
def PySem.W.Fast.tw15743010393045028110 : Unit := ()
def PySem.W.Fast.tw17271881437230615512 : Unit := ()
def PySem.W.Fast.tw10953238642706405951 : Unit := ()
def PySem.W.Fast.tw7873748247521183178 : Unit := ()
def PySem.W.Fast.tw1692201390411429781 : Unit := ()
def PySem.W.Fast.tw2213964242967304950 : Unit := ()
def PySem.W.Fast.tw3042748168174471775 : Unit := ()
def PySem.W.Fast.tw6259241058660970061 : Unit := ()
def PySem.W.Fast.tw5239429619861171699 : Unit := ()
def PySem.W.Fast.tw16279288168775177219 : Unit := ()
def PySem.W.Fast.tw14187406211511212617 : Unit := ()
def PySem.W.Fast.tw15168571331116189253 : Unit := ()
def PySem.W.Fast.tw8092328550381762920 : Unit := ()
def PySem.W.Fast.tw7968833095072559221 : Unit := ()
def PySem.W.Fast.tw1766060059384836818 : Unit := ()
def PySem.W.Fast.tw13415069484114331020 : Unit := ()
def PySem.W.Fast.tw2132705950376112619 : Unit := ()
def PySem.W.Fast.tw17492590578351606391 : Unit := ()
def PySem.W.Fast.tw6703304554741867743 : Unit := ()
def PySem.W.Fast.tw8997383693586321770 : Unit := ()
def PySem.W.Fast.tw1985161075807479808 : Unit := ()
def PySem.W.Fast.tw11049975164235850100 : Unit := ()
def PySem.W.Fast.tw5651157763983816626 : Unit := ()
def PySem.W.Fast.tw6898017943877082715 : Unit := ()
def PySem.W.Fast.tw7619719374711960509 : Unit := ()
def PySem.W.Fast.tw3877615705368685908 : Unit := ()
def PySem.W.Fast.tw8199952749718852173 : Unit := ()
def PySem.W.Fast.tw2780889678406605072 : Unit := ()
def PySem.W.Fast.tw9244504848834559715 : Unit := ()
def PySem.W.Fast.tw16698786613463813267 : Unit := ()
def PySem.W.Fast.tw5542091645655008416 : Unit := ()
def PySem.W.Fast.tw5666659910402412263 : Unit := ()
def PySem.W.Fast.tw8742817616077272606 : Unit := ()
def PySem.W.Fast.tw9057035906848192889 : Unit := ()
def PySem.W.Fast.tw12902166330736054541 : Unit := ()
def PySem.W.Fast.tw7873823757921102712 : Unit := ()
def PySem.W.Fast.tw1422820162477861617 : Unit := ()
def PySem.W.Fast.tw6957663135803877297 : Unit := ()
def PySem.W.Fast.tw5723476159079860079 : Unit := ()
def PySem.W.Fast.tw8892601084892991942 : Unit := ()
def PySem.W.Fast.tw5771433454967703170 : Unit := ()
def PySem.W.Fast.tw15063340032272140987 : Unit := ()
def PySem.W.Fast.tw1711978525486605378 : Unit := ()
def PySem.W.Fast.tw9008160628827913882 : Unit := ()
def PySem.W.Fast.tw3507825891438377585 : Unit := ()
def PySem.W.Fast.tw11651600285772470155 : Unit := ()
def PySem.W.Fast.tw14455545822193828066 : Unit := ()
def PySem.W.Fast.tw10283138395194639038 : Unit := ()
def PySem.W.Fast.tw8364913853820886051 : Unit := ()
def PySem.W.Fast.tw9625324600400478904 : Unit := ()
def PySem.W.Fast.tw17793090303980254272 : Unit := ()
def PySem.W.Fast.tw5634879105068955787 : Unit := ()
def PySem.W.Fast.tw14741289099931302040 : Unit := ()
def PySem.W.Fast.tw8948772413515650267 : Unit := ()
def PySem.W.Fast.tw14761691873820075506 : Unit := ()
def PySem.W.Fast.tw7774113678449685934 : Unit := ()
def PySem.W.Fast.tw7270044853574301482 : Unit := ()
open_top hd for PySem.Challenge.rw_nn0156_01
end
section
namespace Pg
theorem le_lit {a b c : Nat} (_ : Nat.ble c c = true) (h : a ≤ b) (e : Nat.ble b c = true) : a ≤ c := Nat.le_trans h (Nat.le_of_ble_eq_true e)
theorem lt_lit {a b c : Nat} (_ : Nat.ble c c = true) (h : a ≤ b) (e : Nat.ble (b + 1) c = true) : a < c := Nat.le_trans (Nat.succ_le_succ h) (Nat.le_of_ble_eq_true e)
theorem bd_l {n : Nat} (_ : Nat.ble n n = true) : n ≤ n := Nat.le_refl n
theorem bd_lt {e m B : Nat} (h : e < m) (g : m ≤ B) : e ≤ B - 1 := Nat.le_sub_one_of_lt (Nat.lt_of_lt_of_le h g)
theorem bd_eq {e x B : Nat} (h : e = x) (g : x ≤ B) : e ≤ B := h ▸ g
theorem bd_mr {a b B : Nat} (g : b ≤ B) : min a b ≤ B := Nat.le_trans (Nat.min_le_right a b) g
theorem bd_mx {a b A B : Nat} (g : a ≤ A) (h : b ≤ B) : max a b ≤ max A B := Nat.max_le.2 ⟨Nat.le_trans g (Nat.le_max_left A B), Nat.le_trans h (Nat.le_max_right A B)⟩
theorem bd_sb {a b A : Nat} (g : a ≤ A) : a - b ≤ A := Nat.le_trans (Nat.sub_le a b) g
theorem bd_tn {r : Int} {B : Nat} (h : r < (B : Int)) : r.toNat ≤ B - 1 := by
 cases r with
 | ofNat n => exact Nat.le_sub_one_of_lt (Int.ofNat_lt.mp h)
 | negSucc n => exact Nat.zero_le _
theorem bd_ap {α} {l m : List α} {B : Nat} (h : l.length + m.length ≤ B) : (l ++ m).length ≤ B := by rw [List.length_append]; exact h
theorem i_nn (i : Nat) : (0 : Int) ≤ 0 + (i : Int) := Int.add_nonneg (Int.le_refl 0) (Int.natCast_nonneg i)
theorem i_nm (i : Nat) : (0 : Int) ≤ 0 + (i : Int) * 1 := by rw [Int.mul_one]; exact i_nn i
theorem i_np (j i : Nat) : (0 : Int) ≤ (OfNat.ofNat j : Int) + (i : Int) := Int.add_nonneg (Int.natCast_nonneg j) (Int.natCast_nonneg i)
theorem i_tn (i : Nat) : ((0 : Int) + (i : Int)).toNat = i := by rw [Int.zero_add]; rfl
theorem i_tm (i : Nat) : ((0 : Int) + (i : Int) * 1).toNat = i := by rw [Int.mul_one, Int.zero_add]; rfl
theorem i_t1 (i : Nat) : ((1 : Int) + (i : Int)).toNat = i + 1 := by rw [Int.add_comm]; rfl
theorem i_lt {i B : Nat} {m : Int} (h : i ≤ B) (e : Nat.ble B 1000000000 = true) (k : ((1000000001 : Nat) : Int) ≤ m) : (0 : Int) + (i : Int) < m := by rw [Int.zero_add]; exact Int.lt_of_lt_of_le (Int.ofNat_lt.mpr (Nat.lt_succ_of_le (Nat.le_trans h (Nat.le_of_ble_eq_true e)))) k
theorem i_62 {i B : Nat} (h : i ≤ B) (e : Nat.ble B 1000000000 = true) : (0 : Int) + (i : Int) < 2 ^ 62 := i_lt h e (by decide)
theorem i_63 {i B : Nat} (h : i ≤ B) (e : Nat.ble B 1000000000 = true) : (0 : Int) + (i : Int) < 2 ^ 63 := i_lt h e (by decide)
theorem i_631 {i B : Nat} (h : i ≤ B) (e : Nat.ble B 1000000000 = true) : (1 : Int) + (i : Int) < 2 ^ 63 := by rw [Int.add_comm]; exact Int.lt_of_le_of_lt (Int.ofNat_le.mpr (Nat.succ_le_succ (Nat.le_trans h (Nat.le_of_ble_eq_true e)))) (by decide)
theorem i_63t {i B : Nat} (h : i ≤ B) (e : Nat.ble B 1000000000 = true) : (0 : Int) + (i : Int) * 1 < 2 ^ 63 := by rw [Int.mul_one]; exact i_63 h e
theorem or2 {i : Nat} (h : i < 2) : i = 0 ∨ i = 1 := (Nat.lt_succ_iff_lt_or_eq.mp h).imp_left Nat.lt_one_iff.mp
theorem or3 {i : Nat} (h : i < 3) : i = 0 ∨ i = 1 ∨ i = 2 := (Nat.lt_succ_iff_lt_or_eq.mp h).elim (fun h => (or2 h).imp_right .inl) fun e => .inr (.inr e)
theorem or4 {i : Nat} (h : i < 4) : i = 0 ∨ i = 1 ∨ i = 2 ∨ i = 3 := (Nat.lt_succ_iff_lt_or_eq.mp h).elim (fun h => (or3 h).imp_right (.imp_right .inl)) fun e => .inr (.inr (.inr e))
theorem or5 {i : Nat} (h : i < 5) : i = 0 ∨ i = 1 ∨ i = 2 ∨ i = 3 ∨ i = 4 := (Nat.lt_succ_iff_lt_or_eq.mp h).elim (fun h => (or4 h).imp_right (.imp_right (.imp_right .inl))) fun e => .inr (.inr (.inr (.inr e)))
theorem or6 {i : Nat} (h : i < 6) : i = 0 ∨ i = 1 ∨ i = 2 ∨ i = 3 ∨ i = 4 ∨ i = 5 := (Nat.lt_succ_iff_lt_or_eq.mp h).elim (fun h => (or5 h).imp_right (.imp_right (.imp_right (.imp_right .inl)))) fun e => .inr (.inr (.inr (.inr (.inr e))))
theorem oi2 {i : Int} (g : 0 ≤ i) (h : i < 2) : i = 0 ∨ i = 1 := by
 obtain ⟨n, rfl⟩ := Int.eq_ofNat_of_zero_le g
 exact (or2 (Int.ofNat_lt.mp h)).imp (congrArg Int.ofNat) (congrArg Int.ofNat)
theorem oi4 {i : Int} (g : 0 ≤ i) (h : i < 4) : i = 0 ∨ i = 1 ∨ i = 2 ∨ i = 3 := by
 obtain ⟨n, rfl⟩ := Int.eq_ofNat_of_zero_le g
 exact (or4 (Int.ofNat_lt.mp h)).imp (congrArg Int.ofNat) (.imp (congrArg Int.ofNat) (.imp (congrArg Int.ofNat) (congrArg Int.ofNat)))
theorem sb_i {i n : Nat} (h : i < n) : n - (i + 1) < n - i := Nat.sub_lt_sub_left h (Nat.lt_succ_self i)
theorem a_sb {p q : Nat} (h : p ≤ q) : p + (q - p) = q := Nat.add_sub_cancel' h
theorem a_sl {p q : Nat} (h : p < q) : p + (q - p) = q := a_sb (Nat.le_of_lt h)
theorem st3 {a i : Nat} (h : a ≤ 2 + 3 * i) : a + 3 ≤ 2 + 3 * (i + 1) := Nat.add_le_add_right h 3
theorem st1 {a i : Nat} (h : a ≤ 2 + 3 * i) : a + 1 ≤ 2 + 3 * (i + 1) := Nat.le_trans (Nat.succ_le_succ h) (by simp +arith)
theorem st7 {k i : Nat} (h : k ≤ 13 + 7 * i) : k + 1 ≤ 13 + 7 * (i + 1) := Nat.le_trans (Nat.succ_le_succ h) (by simp +arith)
theorem st6 {k i : Nat} (h : k ≤ 13 + 7 * i) : k + 1 + 6 ≤ 13 + 7 * (i + 1) := Nat.add_le_add_right h 7
theorem stm {a i : Nat} (h : a + 1 ≤ i) : a ≤ i + 1 := Nat.le_trans (Nat.le_succ a) (Nat.le_succ_of_le h)
theorem st2 {a b i : Nat} (h : a ≤ 2 * i) (g : b ≤ 2) : a + b ≤ 2 * (i + 1) := Nat.add_le_add h g
theorem sw2 {a i : Nat} (h : a ≤ 2 * i) : a ≤ 2 * (i + 1) := Nat.le_trans h (Nat.le_add_right _ 2)
theorem st4 {a b i : Nat} (h : a ≤ 4 * i) (g : b ≤ 4) : a + b ≤ 4 * (i + 1) := Nat.add_le_add h g
theorem se4 {a b c i : Nat} (h : a ≤ 4 * i) (e : b = c) (g : c ≤ 4) : a + b ≤ 4 * (i + 1) := Nat.add_le_add h (Nat.le_trans (Nat.le_of_eq e) g)
theorem sw4 {a i : Nat} (h : a ≤ 4 * i) : a ≤ 4 * (i + 1) := Nat.le_trans h (Nat.le_add_right _ 4)
theorem ss0 {n m c : Nat} (h : n ≤ m) : n + 4 * (c - c) ≤ m := by rw [Nat.sub_self]; exact h
theorem ss1 {n m c : Nat} (h : n ≤ m) : n + 4 * (c + 1 - (c + 1)) ≤ m := by rw [Nat.sub_self]; exact h
theorem ad_l {n k : Nat} : n ≤ n + k := Nat.le_add_right n k
theorem le_ad {n m k : Nat} (h : n ≤ m) : n ≤ m + k := Nat.le_trans h (Nat.le_add_right m k)
theorem mq1 {a b N : Nat} (h : a + b + 2 ≤ N) : max a a + 1 ≤ N := by rw [Nat.max_self]; exact Nat.le_trans (Nat.succ_le_succ (Nat.le_add_right a (b + 1))) h
theorem mq2 {X Y m N : Nat} (h : X ≤ m) (g : Y ≤ m) (k : m + 2 ≤ N) : max (max X X + 1) Y + 1 ≤ N := by rw [Nat.max_self]; exact Nat.le_trans (Nat.succ_le_succ (Nat.max_le.2 ⟨Nat.succ_le_succ h, Nat.le_succ_of_le g⟩)) k
theorem mqs {a Q y : Nat} : a + 4 * (Q - y) ≤ a + 4 * Q := Nat.add_le_add_left (Nat.mul_le_mul_left 4 (Nat.sub_le Q y)) a
theorem x_uk {d n L c j : Nat} (hc : j ≤ c) (h : d + c * (n + 1) < L) : d + j + c * n < L := Nat.lt_of_le_of_lt (by rw [Nat.add_assoc, Nat.mul_succ, Nat.add_comm j]; exact Nat.add_le_add_left (Nat.add_le_add_left hc _) _) h
theorem ix_lt {k : Int} {n : Nat} (h0 : 0 ≤ k) (hk : k.toNat < n) : k < (n : Int) := (Int.toNat_lt h0).mp hk
theorem im_max (a b : Nat) : max (a : Int) b = ((max a b : Nat) : Int) := by
 rcases Nat.le_total a b with h | h
 ·rw [Nat.max_eq_right h]; exact Int.max_eq_right (Int.ofNat_le.mpr h)
 ·rw [Nat.max_eq_left h]; exact Int.max_eq_left (Int.ofNat_le.mpr h)
theorem is0 {b m : Nat} (h : b ≤ m) : (0 : Int) ≤ (m : Int) - (b : Int) := Int.sub_nonneg_of_le (Int.ofNat_le.mpr h)
theorem ist {b m c : Nat} (h : m ≤ c) : ((m : Int) - (b : Int)).toNat ≤ c := by rw [Int.toNat_sub]; exact Nat.le_trans (Nat.sub_le m b) h
theorem isl {b m : Nat} (h : m ≤ 40) : (m : Int) - (b : Int) ≤ 1000000 := Int.le_trans (Int.sub_le_self _ (Int.natCast_nonneg b)) (Int.le_trans (Int.ofNat_le.mpr h) (by decide))
theorem isa {b m : Nat} (h : b ≤ m) : b + ((m : Int) - (b : Int)).toNat = m := by rw [Int.toNat_sub]; exact Nat.add_sub_cancel' h
theorem i4t (p : Nat) : ((40 : Int) - (p : Int)).toNat = 40 - p := Int.toNat_sub 40 p
theorem i4n (p : Nat) : ((40 : Int) - (p : Int)).toNat ≤ 40 := ist (Nat.le_refl 40)
theorem i4l (p : Nat) : (40 : Int) - (p : Int) ≤ 1000000 := isl (Nat.le_refl 40)
theorem i40 {p : Nat} (h : p ≤ 40) : (0 : Int) ≤ (40 : Int) - (p : Int) := is0 h
theorem r8 {j N c x : Nat} (h : c ≤ 24) (hj : Nat.ble j 10 = true) : j + (2 * N + 200 + 8 * c) + 4 * (40 - x) ≤ 2 * N + 1000 :=
 Nat.le_trans (Nat.add_le_add (Nat.add_le_add (Nat.le_of_ble_eq_true hj) (Nat.add_le_add_left (Nat.mul_le_mul_left 8 h) _)) (Nat.mul_le_mul_left 4 (Nat.sub_le 40 x))) (by simp +arith)
theorem r80 {N c x : Nat} (h : c ≤ 24) : 2 * N + 200 + 8 * c + 4 * (40 - x) ≤ 2 * N + 1000 := by rw [← Nat.zero_add (2 * N + 200 + 8 * c)]; exact r8 h rfl
theorem s40 {n p : Nat} : n + 4 * (40 - p) ≤ n + 160 := mqs
theorem nba {n : Int} (h : -20 ≤ n ∧ n ≤ 20) : n.natAbs ≤ 20 := by omega
theorem nbl {n : Int} (h : -20 ≤ n ∧ n ≤ 20) : -2 ^ 64 < n := Int.lt_of_lt_of_le (by decide) h.1
theorem nbg {n : Int} (h : -20 ≤ n ∧ n ≤ 20) : n < 2 ^ 64 := Int.lt_of_le_of_lt h.2 (by decide)
theorem nb6 {n : Int} {k : Nat} (h : -20 ≤ n ∧ n ≤ 20) (e : Nat.ble 21 (2 ^ k) = true) : n.natAbs < 2 ^ k := Nat.lt_of_le_of_lt (nba h) (Nat.le_of_ble_eq_true e)
theorem al1 {n e q : Nat} (h : n + e ≤ 300000) : n + 4 * (40 - q) + (max (n + e + 160) (n + e + 160) + 1) ≤ 1000000 := by
 rw [Nat.max_self]
 exact Nat.le_trans (Nat.add_le_add (Nat.le_trans mqs (Nat.add_le_add_right (Nat.le_trans (Nat.le_add_right n e) h) _)) (Nat.succ_le_succ (Nat.add_le_add_right h 160))) (by decide)
theorem ap1 {n e : Nat} (h : n + e ≤ 400000) : max (n + e + 160) (n + e + 160) + 1 + (n + 160) ≤ 1000000 := by
 rw [Nat.max_self]
 exact Nat.le_trans (Nat.add_le_add (Nat.succ_le_succ (Nat.add_le_add_right h 160)) (Nat.add_le_add_right (Nat.le_trans (Nat.le_add_right n e) h) 160)) (by decide)
theorem go1 (n : Nat) : max 43 (44 + n) + 1 ≤ 44 + (n + 1) := Nat.succ_le_succ (Nat.max_le.2 ⟨Nat.le_trans (by decide) (Nat.le_add_right 44 n), Nat.le_refl _⟩)
theorem dr {r : Int} {a b : Nat} (g : 0 ≤ r) (h : r < (b : Int)) : ∃ n : Nat, (a : Int) + r = 0 + (n : Int) ∧ n ≤ a + b - 1 := by
 obtain ⟨m, rfl⟩ := Int.eq_ofNat_of_zero_le g
 exact ⟨a + m, (Int.zero_add _).symm, Nat.le_sub_one_of_lt (Nat.add_lt_add_left (Int.ofNat_lt.mp h) a)⟩
theorem tn_lt {r c : Int} {B : Nat} (g : 0 ≤ r) (h : r < c) (e : c = (B : Int)) : r.toNat < B := (Int.toNat_lt g).mpr (e ▸ h)
theorem lar {n k m : Nat} (h : n + k ≤ m) : n ≤ m := Nat.le_trans (Nat.le_add_right n k) h
theorem lal {n k m : Nat} (h : k + n ≤ m) : n ≤ m := Nat.le_trans (Nat.le_add_left n k) h
theorem cp4 {n k : Nat} (h : n + k ≤ 1000000) : n + 160 + (k + 160) ≤ 134217728 := Nat.le_trans (by simp +arith : n + 160 + (k + 160) ≤ n + k + 320) (Nat.le_trans (Nat.add_le_add_right h 320) (by decide))
theorem fm0 (x : Int) : 0 ≤ x.fmod 4 := Int.fmod_nonneg_of_pos x (by decide)
theorem fm4 (x : Int) : x.fmod 4 < 4 := Int.fmod_lt_of_pos x (by decide)
theorem fm63 (x : Int) : x.fmod 4 < 2 ^ 63 := Int.lt_of_lt_of_le (fm4 x) (by decide)
theorem de1 {n : Nat} (h : (0 : Int) < n) : n - 1 < n := Nat.sub_lt (Int.ofNat_lt.mp h) Nat.one_pos
theorem de2 {n : Nat} (h : (0 : Int) < n) : ((n - 1 : Nat) : Int) = (n : Int) - 1 := Int.ofNat_sub (Int.ofNat_lt.mp h)
theorem de3 {n : Nat} (h : (0 : Int) < n) : n = n - 1 + 1 := (Nat.sub_add_cancel (Int.ofNat_lt.mp h)).symm
theorem de4 {m : Int} (h : m % 10 = 0) : m = m / 10 * 10 := (Int.ediv_mul_cancel (Int.dvd_of_emod_eq_zero h)).symm
theorem lt_c {x : Int} {L B : Nat} (h : x < (L : Int)) (k : L ≤ B) (e : Nat.ble B 1000000000 = true) : x < 2 ^ 63 := Int.lt_trans h (Int.lt_of_le_of_lt (Int.ofNat_le.mpr (Nat.le_trans k (Nat.le_of_ble_eq_true e))) (by decide))
theorem na_lt {L B : Nat} (k : L ≤ B) (e : Nat.ble B 1000000000 = true) : (L : Int).natAbs < 2 ^ 200 := Nat.lt_of_le_of_lt (Nat.le_trans k (Nat.le_of_ble_eq_true e)) (by decide)
theorem as0 (j i : Nat) : (0 : Int) ≤ (OfNat.ofNat j : Int) + (i : Int) * 1 := by rw [Int.mul_one]; exact i_np j i
theorem as1 {c : Int} {i B : Nat} (k : i ≤ B) (e : Nat.ble B 1000 = true) (hc : c ≤ 1000) : c + (i : Int) * 1 ≤ 1114111 := by
 rw [Int.mul_one]
 exact Int.le_trans (Int.add_le_add hc (Int.ofNat_le.mpr (Nat.le_trans k (Nat.le_of_ble_eq_true e)))) (by decide)
theorem bd_qe {e x B : Nat} (h : x = e) (g : x ≤ B) : e ≤ B := h ▸ g
theorem bd_sl {e m B : Nat} (h : e + 1 ≤ m) (g : m ≤ B) : e ≤ B - 1 := bd_lt h g
theorem nk {N a b k : Nat} (h : a ≤ b) (e : Nat.ble b k = true) : N + a ≤ N + k := Nat.add_le_add_left (Nat.le_trans h (Nat.le_of_ble_eq_true e)) N
theorem nk2 {N a b k : Nat} (h : a ≤ b) (e : Nat.ble b k = true) : 2 * (N + a) + 1000 ≤ 2 * (N + k) + 1000 := Nat.add_le_add_right (Nat.mul_le_mul_left 2 (nk h e)) 1000
theorem nk4 {N a b c k : Nat} (h : b ≤ c) (e : Nat.ble (a + c) k = true) : N + a + b ≤ N + k := by rw [Nat.add_assoc]; exact nk (Nat.add_le_add_left h a) e
theorem nkc {N a b c k : Nat} (h : a ≤ b) (e : Nat.ble (b + 4) k = true) : N + a + 4 * (c + 1 - c) ≤ N + k := by rw [Nat.add_sub_cancel_left, Nat.add_assoc]; exact nk (Nat.add_le_add_right h 4) e
theorem nk3 {a N x y b k : Nat} (h : x ≤ y) (e : Nat.ble (a + y + b) k = true) : a + N + x + b ≤ N + k := by rw [Nat.add_comm a N, Nat.add_assoc, Nat.add_assoc, ← Nat.add_assoc a]; exact nk (Nat.add_le_add_right (Nat.add_le_add_left h a) b) e
theorem wt {N x M : Nat} (h : N + x ≤ M) : 2 * N + 1000 ≤ 2 * M + 1000 := Nat.add_le_add_right (Nat.mul_le_mul_left 2 (lar h)) 1000
theorem ml1 {x : Int} {n : Nat} (hx : x = n) (hn : n ≤ 1000) : -9223372036854775808 ≤ x ∧ x < 9223372036854775808 := by
 subst hx
 exact ⟨Int.le_trans (by decide) (Int.natCast_nonneg n), Int.lt_of_le_of_lt (Int.ofNat_le.mpr hn) (by decide)⟩
end Pg
end
theorem Pg.kw0 : True := by
  (k_with "bd" => first | (with_reducible exact bd_l (by with_reducible_and_instances rfl)) | (with_reducible (fail_if_success fail_if_success refine' Nat.add_le_add ?_ ?_); refine Nat.add_le_add (by k_extra "bd") (by k_extra "bd")) | (with_reducible (fail_if_success fail_if_success refine' Nat.mul_le_mul ?_ ?_); refine Nat.mul_le_mul (by k_extra "bd") (by k_extra "bd")) | (with_reducible (fail_if_success fail_if_success refine' bd_mr ?_); refine bd_mr (by k_extra "bd")) | (with_reducible (fail_if_success fail_if_success refine' bd_mx ?_ ?_); refine bd_mx (by k_extra "bd") (by k_extra "bd")) | (with_reducible (fail_if_success fail_if_success refine' bd_sb ?_); refine bd_sb (by k_extra "bd")) | (with_reducible (fail_if_success fail_if_success refine' bd_ap ?_); refine bd_ap (by k_extra "bd")) | (with_reducible (fail_if_success fail_if_success refine' bd_tn ?_); refine bd_tn (by assumption)) | (with_reducible refine Nat.le_trans (by assumption) (by k_extra "bd")) | (with_reducible refine bd_lt (by assumption) (by k_extra "bd")) | (with_reducible refine bd_eq (by assumption) (by k_extra "bd")) | (with_reducible refine bd_sl (by assumption) (by k_extra "bd")) | (with_reducible refine bd_qe (by assumption) (by assumption)))
  (k_with "om" => first | with_reducible assumption | (with_reducible exact i_nn _) | (with_reducible exact i_tn _) | (with_reducible exact i_nm _) | (with_reducible exact i_tm _) | (with_reducible exact i_t1 _) | (with_reducible exact i_np _ _) | (with_reducible (fail_if_success fail_if_success refine' i_63 ?_ ?_); refine i_63 (by k_extra "bd") (by with_unfolding_all rfl)) | (with_reducible (fail_if_success fail_if_success refine' i_62 ?_ ?_); refine i_62 (by k_extra "bd") (by with_unfolding_all rfl)) | (with_reducible (fail_if_success fail_if_success refine' i_63t ?_ ?_); refine i_63t (by k_extra "bd") (by with_unfolding_all rfl)) | (with_reducible (fail_if_success fail_if_success refine' i_631 ?_ ?_); refine i_631 (by k_extra "bd") (by with_unfolding_all rfl)) | (with_reducible (fail_if_success fail_if_success refine' le_lit ?_ ?_ ?_); refine le_lit (by with_reducible_and_instances rfl) (by k_extra "bd") (by with_unfolding_all rfl)) | (with_reducible (fail_if_success fail_if_success refine' lt_lit ?_ ?_ ?_); refine lt_lit (by with_reducible_and_instances rfl) (by k_extra "bd") (by with_unfolding_all rfl)) | (with_reducible exact st3 (by assumption)) | (with_reducible exact st1 (by assumption)) | (with_reducible exact st7 (by assumption)) | (with_reducible exact st6 (by assumption)) | (with_reducible exact stm (by assumption)) | (with_reducible exact st2 (by assumption) (by assumption)) | (with_reducible exact sw2 (by assumption)) | (with_reducible exact st4 (by assumption) (by assumption)) | (with_reducible exact se4 (by assumption) (by assumption) (by assumption)) | (with_reducible exact sw4 (by assumption)) | (with_reducible exact sb_i (by assumption)) | (with_reducible exact or3 (by assumption)) | (with_reducible exact or4 (by assumption)) | (with_reducible exact or2 (by assumption)) | (with_reducible exact or6 (by assumption)) | (with_reducible exact oi2 (by assumption) (by assumption)) | (with_reducible exact oi4 (by assumption) (by assumption)) | (with_reducible exact a_sb (by assumption)) | (with_reducible exact a_sl (by assumption)) | (with_reducible (fail_if_success fail_if_success refine' ss0 ?_); refine ss0 (by k_extra "om")) | (with_reducible (fail_if_success fail_if_success refine' ss1 ?_); refine ss1 (by k_extra "om")) | with_reducible exact ad_l | (with_reducible exact le_ad (by assumption)) | (with_reducible exact Nat.succ_le_succ (by assumption)) | (with_reducible (fail_if_success fail_if_success refine' is0 ?_); refine is0 (by first | exact Nat.le_max_left _ _ | exact Nat.le_max_right _ _ | with_reducible assumption)) | (with_reducible (fail_if_success fail_if_success refine' isa ?_); refine isa (by first | exact Nat.le_max_left _ _ | exact Nat.le_max_right _ _ | with_reducible assumption)) | (with_reducible exact ist (by assumption)) | (with_reducible exact isl (by assumption)) | (with_reducible exact i4t _) | (with_reducible exact i4n _) | (with_reducible exact i4l _) | (with_reducible exact i40 (by assumption)) | (with_reducible (fail_if_success fail_if_success refine' r8 ?_ ?_); refine r8 (by assumption) (by with_unfolding_all rfl)) | (with_reducible exact r80 (by assumption)) | with_reducible exact s40 | (with_reducible exact nbl (by assumption)) | (with_reducible exact nbg (by assumption)) | (with_reducible (fail_if_success fail_if_success refine' nb6 ?_ ?_); refine nb6 (by assumption) (by with_unfolding_all rfl)) | (with_reducible exact al1 (by assumption)) | (with_reducible exact ap1 (by assumption)) | with_reducible exact go1 _ | (with_reducible exact tn_lt (by assumption) (by assumption) (by with_unfolding_all rfl)) | (with_reducible (fail_if_success fail_if_success refine' Int.lt_of_lt_of_le ?_ ?_); refine Int.lt_of_lt_of_le (by assumption) (by with_unfolding_all decide)) | (with_reducible exact lar (by assumption)) | (with_reducible exact lal (by assumption)) | (with_reducible exact cp4 (by assumption)) | (with_reducible exact fm0 _) | (with_reducible exact fm4 _) | (with_reducible exact fm63 _) | (with_reducible exact de1 (by assumption)) | (with_reducible exact de2 (by assumption)) | (with_reducible exact de3 (by assumption)) | (with_reducible exact de4 (by assumption)) | (with_reducible (fail_if_success fail_if_success refine' lt_c ?_ ?_ ?_); refine lt_c (by assumption) (by k_extra "bd") (by with_unfolding_all rfl)) | (with_reducible (fail_if_success fail_if_success refine' na_lt ?_ ?_); refine na_lt (by k_extra "bd") (by with_unfolding_all rfl)) | (with_reducible exact as0 _ _) | (with_reducible (fail_if_success fail_if_success refine' as1 ?_ ?_ ?_); refine as1 (by k_extra "bd") (by with_unfolding_all rfl) (by with_unfolding_all decide)) | (with_reducible (fail_if_success fail_if_success refine' nk ?_ ?_); refine nk (by k_extra "bd") (by with_unfolding_all rfl)) | (with_reducible (fail_if_success fail_if_success refine' nk2 ?_ ?_); refine nk2 (by k_extra "bd") (by with_unfolding_all rfl)) | (with_reducible (fail_if_success fail_if_success refine' nk4 ?_ ?_); refine nk4 (by k_extra "bd") (by with_unfolding_all rfl)) | (with_reducible (fail_if_success fail_if_success refine' nkc ?_ ?_); refine nkc (by k_extra "bd") (by with_unfolding_all rfl)) | (with_reducible (fail_if_success fail_if_success refine' nk3 ?_ ?_); refine nk3 (by k_extra "bd") (by with_unfolding_all rfl)) | (with_reducible exact wt (by assumption)) | (with_reducible exact ml1 (by assumption) (by assumption)) | (simp +arith only [Nat.sub_self, Nat.add_sub_add_right, Nat.add_sub_cancel_left, Nat.add_sub_cancel]; done) | ((with_reducible refine Nat.le_trans mqs ?_); (simp +arith only [Nat.sub_self, Nat.add_sub_add_right, Nat.add_sub_cancel_left, Nat.add_sub_cancel]; done)) | ((with_reducible refine Nat.le_trans (by assumption) ?_); (simp +arith only [Nat.sub_self, Nat.add_sub_add_right, Nat.add_sub_cancel_left, Nat.add_sub_cancel]; done)) | ((with_reducible refine Nat.le_trans ?_ (by assumption)); (simp +arith only [Nat.sub_self, Nat.add_sub_add_right, Nat.add_sub_cancel_left, Nat.add_sub_cancel]; done)) | omega)
  trivial
section
open PySem PySem.W PyProof.Rows
namespace Pg
structure Cfg where
  w : World
  d : Drawn
  os : OsState
noncomputable def LawAt (x : Cfg) : Prop := ∀ (h : Heap) (tk : Nat) (sl : Addr) (cs : List Value) (mg mb : Str → Option Value) (Q : Value → Shared → Prop), (hd.heap_39 x.w.params).In h → h.NoLimit → h.Ns mainGlobals mg → h.Ns builtinsNs mb →
  (∀ y : Str, y ≠ "__name__" → mb y = bootBuiltins y) → h.get? sl = some { cls := .type "list", data := .seq cs.toArray } → (∀ v ∈ cs, ∃ n t, v = Value.int n t) → cs.length ≤ 1000 →
  (∀ h' tk', (∀ b o, h.get? b = some o → h'.get? b = some o) → Q (.bool true) ⟨h', #[], x.d, tk', x.os⟩) →
  wpAny (model PySem.Challenge.rw_nn0156_01.row.prog x.w) callerA (call (.ref 896) [.ref sl]) Q (fun _ _ => False) ⟨h, #[], x.d, tk, x.os⟩
theorem cfg_some : Nonempty Cfg := ⟨⟨aWorld 1, {}, default⟩⟩
noncomputable def cfg : Cfg := @Classical.epsilon Cfg cfg_some fun x => ¬ LawAt x
theorem law_all (h : LawAt cfg) (x : Cfg) : LawAt x := Classical.byContradiction fun n => @Classical.epsilon_spec Cfg (fun x => ¬ LawAt x) ⟨x, n⟩ h
@[irreducible] noncomputable def prog : Program := PySem.Challenge.rw_nn0156_01.row.prog
@[irreducible] noncomputable def w : World := cfg.w
@[irreducible] noncomputable def d : Drawn := cfg.d
@[irreducible] noncomputable def os : OsState := cfg.os
@[irreducible] def g : Array GenState := #[]
noncomputable abbrev E : Value → Shared → Prop := fun _ _ => False
noncomputable def K : Frag := hd.heap_39 w.params
theorem prog_is : prog = PySem.Challenge.rw_nn0156_01.row.prog := by unfold prog; rfl
theorem w_is : w = cfg.w := by unfold w; rfl
theorem d_is : d = cfg.d := by unfold d; rfl
theorem os_is : os = cfg.os := by unfold os; rfl
theorem g_is : g = #[] := by unfold g; rfl
end Pg
end
section
open PySem PySem.W PyProof.Rows
namespace Pg
noncomputable def Cell := Obj → Prop
noncomputable def Has (h : Heap) (a : Addr) (c : Cell) : Prop := ∃ o, h.get? a = some o ∧ c o
noncomputable abbrev Fz := Addr → Option Cell
noncomputable def Le (F F' : Fz) : Prop := ∀ a c, F a = some c → F' a = some c
theorem Le.rfl {F : Fz} : Le F F := fun _ _ h => h
theorem Le.trans {F F' F'' : Fz} (x : Le F F') (y : Le F' F'') : Le F F'' := fun a c h => y a c (x a c h)
theorem le_t {F F' F'' : Fz} (y : Le F' F'') (x : Le F F') : Le F F'' := x.trans y
theorem Le.at {F F' : Fz} {a : Addr} {c : Cell} (x : Le F F') (h : F a = some c) : F' a = some c := x a c h
noncomputable def Sub (F : Fz) (h : Heap) : Prop := ∀ a c, F a = some c → Has h a c
noncomputable def Raw (o : Obj) : Cell := fun o' => o' = o
inductive Base (F : Fz) : Prop
  | mk (hb : Heap) (mg mb : Str → Option Value) (a : K.In hb) (b : hb.NoLimit) (c : hb.Ns mainGlobals mg) (d : hb.Ns builtinsNs mb) (e : ∀ x : Str, x ≠ "__name__" → mb x = bootBuiltins x) (f : ∀ a o, hb.get? a = some o → F a = some (Raw o)) : Base F
theorem Base.mono {F F' : Fz} (B : Base F) (l : Le F F') : Base F' := by
 obtain ⟨hb, mg, mb, a, b, c, d, e, f⟩ := B
 exact ⟨hb, mg, mb, a, b, c, d, e, fun x o q => l _ _ (f x o q)⟩
theorem Has.lt {h : Heap} {a : Addr} {c : Cell} (x : Has h a c) : a < h.objs.size := by
 obtain ⟨_, e, _⟩ := x
 exact Heap.lt_size e
theorem Has.ne_none {h : Heap} {a : Addr} {c : Cell} (x : Has h a c) : h.get? a ≠ none := fun q => by
 obtain ⟨o, e, _⟩ := x; rw [e] at q; cases q
structure Ext (F : Fz) (h : Heap) (W : List Addr) (F' : Fz) (h' : Heap) : Prop where
  keep : ∀ a o, h.get? a = some o → a ∉ W → h'.get? a = some o
  le : Le F F'
  fz : Sub F' h'
  new : ∀ a c, F' a = some c → F a = some c ∨ h.get? a = none
noncomputable abbrev Mu := List (Addr × Cell)
noncomputable def adr (mu : Mu) : List Addr := mu.map (·.1)
theorem mem_adr {mu : Mu} {p : Addr × Cell} (h : p ∈ mu) : p.1 ∈ adr mu := List.mem_map_of_mem h
theorem mem_adr' {mu : Mu} {p : Addr × Cell} {a : Addr} (h : p ∈ mu) (e : p.1 = a) : a ∈ adr mu := e ▸ mem_adr h
theorem of_mem_adr {mu : Mu} {a : Addr} (h : a ∈ adr mu) : ∃ p ∈ mu, p.1 = a := List.mem_map.mp h
structure Mus (F : Fz) (h : Heap) (mu : Mu) : Prop where
  has : ∀ p ∈ mu, Has h p.1 p.2 ∧ F p.1 = none
  nd : (adr mu).Nodup
theorem Mus.one {F : Fz} {h : Heap} {a : Addr} {c c' : Cell} (m : Mus F h [(a, c)]) (x : Has h a c') : Mus F h [(a, c')] := by
 refine ⟨fun p hp => ?_, by simp [adr]⟩
 rcases List.mem_cons.mp hp with rfl | hp
 ·exact ⟨x, (m.has _ (.head _)).2⟩
 ·cases hp
theorem Mus.tail {F : Fz} {h : Heap} {p : Addr × Cell} {mu : Mu} (m : Mus F h (p :: mu)) : Mus F h mu := ⟨fun q hq => m.has q (.tail _ hq), (List.nodup_cons.mp m.nd).2⟩
theorem Mus.nil {F : Fz} {h : Heap} : Mus F h [] := ⟨fun _ h => (nomatch h), List.nodup_nil⟩
structure Fm (h₀ : Heap) (F₀ : Fz) (W : List Addr) (mu : Mu) (F : Fz) (h : Heap) : Prop where
  ext : Ext F₀ h₀ W F h
  mus : Mus F h mu
  own : ∀ p ∈ mu, p.1 ∈ W ∨ h₀.get? p.1 = none
  tr : ∀ a ∈ W, a ∈ adr mu
  base : Base F₀
theorem Ext.rfl {F : Fz} {h : Heap} {W : List Addr} (x : Sub F h) : Ext F h W F h := ⟨fun _ _ e _ => e, Le.rfl, x, fun _ _ e => .inl e⟩
section
variable {h₀ h h' : Heap} {F₀ F F' : Fz} {W W' : List Addr} {mu mu' : Mu}
class inductive Up (a : Addr) (c : Cell) : Mu → Mu → Prop
  | head {c₀ : Cell} {r : Mu} : Up a c ((a, c₀) :: r) ((a, c) :: r)
  | tail {p : Addr × Cell} {r r' : Mu} (t : Up a c r r') : Up a c (p :: r) (p :: r')
theorem Up.adr {a : Addr} {c : Cell} (u : Up a c mu mu') : adr mu' = adr mu := by
 induction u with
 | head => rfl
 | tail _ ih => show _ :: Pg.adr _ = _ :: Pg.adr _; rw [ih]
theorem Up.here {a : Addr} {c : Cell} (u : Up a c mu mu') : a ∈ Pg.adr mu := by
 induction u with
 | head => exact .head _
 | tail _ ih => exact .tail _ ih
theorem Up.mem {a : Addr} {c : Cell} (u : Up a c mu mu') (nd : (Pg.adr mu).Nodup) : ∀ p ∈ mu', p = (a, c) ∨ (p ∈ mu ∧ p.1 ≠ a) := by
 induction u with
 | head =>
  intro p hp
  rcases List.mem_cons.mp hp with rfl | hp
  ·exact .inl rfl
  ·exact .inr ⟨.tail _ hp, fun e => (List.nodup_cons.mp nd).1 (mem_adr' hp e)⟩
 | tail u ih =>
  intro p hp
  rcases List.mem_cons.mp hp with rfl | hp
  ·exact .inr ⟨.head _, fun e => (List.nodup_cons.mp nd).1 (by have z := u.here; rw [← e] at z; exact z)⟩
  ·rcases ih (List.nodup_cons.mp nd).2 p hp with e | e
   ·exact .inl e
   ·exact .inr ⟨.tail _ e.1, e.2⟩
class inductive Ups : Mu → Mu → Mu → Prop
  | nil {mu : Mu} : Ups [] mu mu
  | cons {a : Addr} {c : Cell} {us mu m₁ mu' : Mu} : Up a c mu m₁ → Ups us m₁ mu' → Ups ((a, c) :: us) mu mu'
theorem Ups.adr {us : Mu} (u : Ups us mu mu') : Pg.adr mu' = Pg.adr mu := by
 induction u with
 | nil => rfl
 | cons u _ ih => rw [ih, u.adr]
theorem Ups.here {us : Mu} (u : Ups us mu mu') : ∀ a ∈ Pg.adr us, a ∈ Pg.adr mu := by
 induction u with
 | nil => intro a ha; cases ha
 | cons u _ ih =>
  intro b hb
  rcases List.mem_cons.mp hb with rfl | hb
  ·exact u.here
  ·exact u.adr ▸ ih b hb
theorem Ups.mem {us : Mu} (u : Ups us mu mu') (nd : (Pg.adr mu).Nodup) (nu : (Pg.adr us).Nodup) : ∀ p ∈ mu', p ∈ us ∨ (p ∈ mu ∧ p.1 ∉ Pg.adr us) := by
 induction u with
 | nil => exact fun p hp => .inr ⟨hp, fun h => nomatch h⟩
 | cons u v ih =>
  intro p hp
  have nu' := List.nodup_cons.mp nu
  rcases ih (u.adr ▸ nd) nu'.2 p hp with e | ⟨e, e'⟩
  ·exact .inl (.tail _ e)
  ·rcases u.mem nd p e with rfl | ⟨q, q'⟩
   ·exact .inl (.head _)
   ·exact .inr ⟨q, fun z => by rcases List.mem_cons.mp z with z | z; exact q' z; exact e' z⟩
theorem Fm.fresh (f : Fm h₀ F₀ W mu F h) {a : Addr} (e : h.get? a = none) : h₀.get? a = none := by
 cases q : h₀.get? a with
 | none => rfl
 | some o =>
  by_cases w : a ∈ W
  ·obtain ⟨p, hp, rfl⟩ := of_mem_adr (f.tr a w)
   exact absurd e (f.mus.has p hp).1.ne_none
  ·rw [f.ext.keep a o q w] at e; cases e
theorem Fm.call {us : Mu} (f : Fm h₀ F₀ W mu F h) (x : Ext F h (adr us) F' h') (m : Mus F' h' us) (u : Ups us mu mu') : Fm h₀ F₀ W mu' F' h' := by
 have nt : ∀ a o, h₀.get? a = some o → a ∉ W → a ∉ adr us := fun a o e w z => by
  obtain ⟨p, hp, rfl⟩ := of_mem_adr (u.here a z)
  rcases f.own p hp with q | q
  ·exact w q
  ·rw [e] at q; cases q
 refine ⟨⟨fun a o e w => x.keep a o (f.ext.keep a o e w) (nt a o e w), f.ext.le.trans x.le, x.fz, fun a c e => ?_⟩, ⟨fun p hp => ?_, u.adr ▸ f.mus.nd⟩, fun p hp => ?_, fun a ha => u.adr ▸ f.tr a ha, f.base⟩
 ·rcases x.new a c e with q | q
  ·exact f.ext.new a c q
  ·exact .inr (f.fresh q)
 ·rcases u.mem f.mus.nd m.nd p hp with q | ⟨q, q'⟩
  ·exact m.has p q
  ·obtain ⟨⟨o, e, k⟩, n⟩ := f.mus.has p q
   refine ⟨⟨o, x.keep _ o e q', k⟩, ?_⟩
   cases z : F' p.1 with
   | none => rfl
   | some c =>
    rcases x.new _ c z with y | y
    ·rw [n] at y; cases y
    ·rw [e] at y; cases y
 ·obtain ⟨q, hq, e⟩ := of_mem_adr (u.adr ▸ mem_adr hp)
  exact e ▸ f.own q hq
theorem Fm.call0 (f : Fm h₀ F₀ W mu F h) (x : Ext F h [] F' h') : Fm h₀ F₀ W mu F' h' := f.call (us := []) x ⟨fun _ h => (nomatch h), List.nodup_nil⟩ .nil
theorem Fm.add {a b : Addr} {c e : Cell} (f : Fm h₀ F₀ W ((b, e) :: mu) F h) (hh : Has h a c) (hn : F a = none) (h0 : h₀.get? a = none) (na : a ∉ adr ((b, e) :: mu)) : Fm h₀ F₀ W ((b, e) :: (a, c) :: mu) F h := by
 refine ⟨f.ext, ⟨fun p hp => ?_, ?_⟩, fun p hp => ?_, fun x hx => ?_, f.base⟩
 ·rcases List.mem_cons.mp hp with rfl | hp
  ·exact f.mus.has _ (.head _)
  ·rcases List.mem_cons.mp hp with rfl | hp
   ·exact ⟨hh, hn⟩
   ·exact f.mus.has _ (.tail _ hp)
 ·have nd := List.nodup_cons.mp f.mus.nd
  have na' : a ≠ b ∧ a ∉ adr mu := ⟨fun q => na (q ▸ .head _), fun q => na (.tail _ q)⟩
  refine List.nodup_cons.mpr ⟨fun q => ?_, List.nodup_cons.mpr ⟨na'.2, nd.2⟩⟩
  rcases List.mem_cons.mp q with q | q
  ·exact na'.1 q.symm
  ·exact nd.1 q
 ·rcases List.mem_cons.mp hp with rfl | hp
  ·exact f.own _ (.head _)
  ·rcases List.mem_cons.mp hp with rfl | hp
   ·exact .inr h0
   ·exact f.own _ (.tail _ hp)
 ·rcases List.mem_cons.mp (f.tr x hx) with q | q
  ·exact q ▸ .head _
  ·exact .tail _ (.tail _ q)
theorem Fm.turn {a : Addr} {c : Cell} (f : Fm h₀ F₀ W mu F h) (u : Up a c mu mu') (hk : ∀ b o, b ≠ a → h.get? b = some o → h'.get? b = some o) (hc : Has h' a c) : Fm h₀ F₀ W mu' F h' := by
 have fa : F a = none := by obtain ⟨p, hp, rfl⟩ := of_mem_adr u.here; exact (f.mus.has p hp).2
 refine f.call (us := [(a, c)]) ⟨fun b o e w => hk b o (fun q => w (q ▸ .head _)) e, Le.rfl, fun b k e => ?_, fun _ _ e => .inl e⟩ ⟨fun p hp => ?_, by simp [adr]⟩ (.cons u .nil)
 ·obtain ⟨o, q, z⟩ := f.ext.fz b k e
  exact ⟨o, hk b o (fun y => by subst y; rw [fa] at e; cases e) q, z⟩
 ·rcases List.mem_cons.mp hp with rfl | hp
  ·exact ⟨hc, fa⟩
  ·cases hp
noncomputable def Fz.set (F : Fz) (a : Addr) (c : Cell) : Fz := fun b => if b = a then some c else F b
theorem Fz.set_self {F : Fz} {a : Addr} {c : Cell} : F.set a c a = some c := by unfold Fz.set; rw [if_pos rfl]
theorem Fz.set_ne {F : Fz} {a b : Addr} {c : Cell} (n : b ≠ a) : F.set a c b = F b := by unfold Fz.set; rw [if_neg n]
theorem Fz.le_set {F : Fz} {a : Addr} {c : Cell} (n : F a = none) : Le F (F.set a c) := fun b k e => by
 rw [Fz.set_ne]; exact e
 intro q; subst q; rw [n] at e; cases e
theorem Ext.push {o : Obj} {c : Cell} (x : Sub F h) (hc : c o) (hf : o.isFreed = false) : Ext F h [] (F.set h.objs.size c) (h.push o) := by
 have n : F h.objs.size = none := by
  cases q : F h.objs.size with
  | none => rfl
  | some k => exact absurd (x _ _ q).lt (Nat.lt_irrefl _)
 refine ⟨fun a o' e _ => Heap.get?_push_of_some _ e, Fz.le_set n, fun a k e => ?_, fun a k e => ?_⟩
 ·by_cases q : a = h.objs.size
  ·subst q; rw [Fz.set_self] at e; cases e; exact ⟨o, Heap.get?_push_size _ hf, hc⟩
  ·rw [Fz.set_ne q] at e; obtain ⟨o', e', k'⟩ := x a k e; exact ⟨o', Heap.get?_push_of_some _ e', k'⟩
 ·by_cases q : a = h.objs.size
  ·subst q
   right
   cases z : h.get? h.objs.size with
   | none => rfl
   | some o' => exact absurd (Heap.lt_size z) (Nat.lt_irrefl _)
  ·rw [Fz.set_ne q] at e; exact .inl e
theorem Ext.push0 {o : Obj} (x : Sub F h) : Ext F h [] F (h.push o) :=
 ⟨fun a o' e _ => Heap.get?_push_of_some _ e, Le.rfl, fun a k e => let ⟨o', e', k'⟩ := x a k e; ⟨o', Heap.get?_push_of_some _ e', k'⟩, fun _ _ e => .inl e⟩
theorem get_size (h : Heap) : h.get? h.objs.size = none := by
 cases z : h.get? h.objs.size with
 | none => rfl
 | some o' => exact absurd (Heap.lt_size z) (Nat.lt_irrefl _)
theorem Fm.pushF {o : Obj} {c : Cell} (f : Fm h₀ F₀ W mu F h) (hc : c o) (hf : o.isFreed = false) : Fm h₀ F₀ W mu (F.set h.objs.size c) (h.push o) := f.call0 (Ext.push f.ext.fz hc hf)
theorem Fm.pushM {o : Obj} {b : Addr} {c e : Cell} (f : Fm h₀ F₀ W ((b, e) :: mu) F h) (hc : c o) (hf : o.isFreed = false) : Fm h₀ F₀ W ((b, e) :: (h.objs.size, c) :: mu) F (h.push o) := by
 refine (f.call0 (Ext.push0 f.ext.fz)).add ⟨o, Heap.get?_push_size _ hf, hc⟩ ?_ (f.fresh (get_size h)) fun q => ?_
 ·cases q : F h.objs.size with
  | none => rfl
  | some k => exact absurd (f.ext.fz _ _ q).lt (Nat.lt_irrefl _)
 ·obtain ⟨p, hp, e⟩ := of_mem_adr q
  exact absurd (e ▸ (f.mus.has p hp).1.lt) (Nat.lt_irrefl _)
class inductive Rm (a : Addr) (c : Cell) : Mu → Mu → Prop
  | head {r : Mu} : Rm a c ((a, c) :: r) r
  | tail {b : Addr} {e : Cell} {r r' : Mu} : Rm a c r r' → Rm a c ((b, e) :: r) ((b, e) :: r')
theorem Rm.mem {a : Addr} {c : Cell} (u : Rm a c mu mu') : (a, c) ∈ mu := by
 induction u with
 | head => exact .head _
 | tail _ ih => exact .tail _ ih
theorem Rm.sub {a : Addr} {c : Cell} (u : Rm a c mu mu') : ∀ p ∈ mu', p ∈ mu := by
 induction u with
 | head => exact fun p hp => .tail _ hp
 | tail _ ih =>
  intro p hp
  rcases List.mem_cons.mp hp with rfl | hp
  ·exact .head _
  ·exact .tail _ (ih p hp)
theorem Rm.adr {a : Addr} {c : Cell} (u : Rm a c mu mu') : ∀ b ∈ adr mu, b = a ∨ b ∈ adr mu' := by
 induction u with
 | head =>
  intro b hb
  rcases List.mem_cons.mp hb with rfl | hb
  ·exact .inl rfl
  ·exact .inr hb
 | tail _ ih =>
  intro b hb
  rcases List.mem_cons.mp hb with rfl | hb
  ·exact .inr (.head _)
  ·rcases ih b hb with e | e
   ·exact .inl e
   ·exact .inr (.tail _ e)
theorem Rm.nd {a : Addr} {c : Cell} (u : Rm a c mu mu') (nd : (Pg.adr mu).Nodup) : (Pg.adr mu').Nodup ∧ a ∉ Pg.adr mu' := by
 induction u with
 | head => exact ⟨(List.nodup_cons.mp nd).2, (List.nodup_cons.mp nd).1⟩
 | tail u ih =>
  have z := List.nodup_cons.mp nd
  have y := ih z.2
  refine ⟨List.nodup_cons.mpr ⟨fun q => z.1 ?_, y.1⟩, fun q => ?_⟩
  ·obtain ⟨p, hp, e⟩ := of_mem_adr q
   exact e ▸ mem_adr (u.sub p hp)
  ·rcases List.mem_cons.mp q with e | e
   ·exact z.1 (e ▸ mem_adr u.mem)
   ·exact y.2 e
theorem Fm.freeze {a : Addr} {c : Cell} (f : Fm h₀ F₀ W mu F h) (u : Rm a c mu mu') (h0 : h₀.get? a = none) (hW : a ∉ W) : Fm h₀ F₀ W mu' (F.set a c) h := by
 have z := f.mus.has _ u.mem
 have nd := u.nd f.mus.nd
 refine ⟨⟨f.ext.keep, f.ext.le.trans (Fz.le_set z.2), fun b k e => ?_, fun b k e => ?_⟩, ⟨fun p hp => ?_, nd.1⟩, fun p hp => f.own p (u.sub p hp), fun b hb => ?_, f.base⟩
 ·by_cases q : b = a
  ·subst q; rw [Fz.set_self] at e; cases e; exact z.1
  ·rw [Fz.set_ne q] at e; exact f.ext.fz b k e
 ·by_cases q : b = a
  ·subst q; exact .inr h0
  ·rw [Fz.set_ne q] at e; exact f.ext.new b k e
 ·have y := f.mus.has p (u.sub p hp)
  refine ⟨y.1, ?_⟩
  rw [Fz.set_ne]; exact y.2
  intro q; exact nd.2 (q ▸ mem_adr hp)
 ·rcases u.adr b (f.tr b hb) with e | e
  ·exact absurd (e ▸ hb) hW
  ·exact e
theorem Fm.perm (f : Fm h₀ F₀ W mu F h) (p : mu.Perm mu') : Fm h₀ F₀ W mu' F h :=
 ⟨f.ext, ⟨fun q hq => f.mus.has q (p.mem_iff.mpr hq), (p.map _).nodup_iff.mp f.mus.nd⟩, fun q hq => f.own q (p.mem_iff.mpr hq), fun a ha => (p.map _).mem_iff.mp (f.tr a ha), f.base⟩
theorem Fm.swap {p q : Addr × Cell} (f : Fm h₀ F₀ W (p :: q :: mu) F h) : Fm h₀ F₀ W (q :: p :: mu) F h := f.perm (.swap ..)
theorem Fm.rot3 {p q r : Addr × Cell} (f : Fm h₀ F₀ W (p :: q :: r :: mu) F h) : Fm h₀ F₀ W (r :: p :: q :: mu) F h := f.perm (List.perm_middle (l₁ := [p, q]))
end
theorem up1 {p0 : Addr × Cell} {x : Addr} {c c₀ : Cell} {r : Mu} : Up x c (p0 :: (x, c₀) :: r) (p0 :: (x, c) :: r) := .tail (.head)
theorem up2 {p0 p1 : Addr × Cell} {x : Addr} {c c₀ : Cell} {r : Mu} : Up x c (p0 :: p1 :: (x, c₀) :: r) (p0 :: p1 :: (x, c) :: r) := .tail (.tail (.head))
theorem up3 {p0 p1 p2 : Addr × Cell} {x : Addr} {c c₀ : Cell} {r : Mu} : Up x c (p0 :: p1 :: p2 :: (x, c₀) :: r) (p0 :: p1 :: p2 :: (x, c) :: r) := .tail (.tail (.tail (.head)))
theorem up4 {p0 p1 p2 p3 : Addr × Cell} {x : Addr} {c c₀ : Cell} {r : Mu} : Up x c (p0 :: p1 :: p2 :: p3 :: (x, c₀) :: r) (p0 :: p1 :: p2 :: p3 :: (x, c) :: r) := .tail (.tail (.tail (.tail (.head))))
theorem up5 {p0 p1 p2 p3 p4 : Addr × Cell} {x : Addr} {c c₀ : Cell} {r : Mu} : Up x c (p0 :: p1 :: p2 :: p3 :: p4 :: (x, c₀) :: r) (p0 :: p1 :: p2 :: p3 :: p4 :: (x, c) :: r) := .tail (.tail (.tail (.tail (.tail (.head)))))
theorem up6 {p0 p1 p2 p3 p4 p5 : Addr × Cell} {x : Addr} {c c₀ : Cell} {r : Mu} : Up x c (p0 :: p1 :: p2 :: p3 :: p4 :: p5 :: (x, c₀) :: r) (p0 :: p1 :: p2 :: p3 :: p4 :: p5 :: (x, c) :: r) := .tail (.tail (.tail (.tail (.tail (.tail (.head))))))
theorem up7 {p0 p1 p2 p3 p4 p5 p6 : Addr × Cell} {x : Addr} {c c₀ : Cell} {r : Mu} : Up x c (p0 :: p1 :: p2 :: p3 :: p4 :: p5 :: p6 :: (x, c₀) :: r) (p0 :: p1 :: p2 :: p3 :: p4 :: p5 :: p6 :: (x, c) :: r) := .tail (.tail (.tail (.tail (.tail (.tail (.tail (.head)))))))
theorem up8 {p0 p1 p2 p3 p4 p5 p6 p7 : Addr × Cell} {x : Addr} {c c₀ : Cell} {r : Mu} : Up x c (p0 :: p1 :: p2 :: p3 :: p4 :: p5 :: p6 :: p7 :: (x, c₀) :: r) (p0 :: p1 :: p2 :: p3 :: p4 :: p5 :: p6 :: p7 :: (x, c) :: r) := .tail (.tail (.tail (.tail (.tail (.tail (.tail (.tail (.head))))))))
theorem up9 {p0 p1 p2 p3 p4 p5 p6 p7 p8 : Addr × Cell} {x : Addr} {c c₀ : Cell} {r : Mu} : Up x c (p0 :: p1 :: p2 :: p3 :: p4 :: p5 :: p6 :: p7 :: p8 :: (x, c₀) :: r) (p0 :: p1 :: p2 :: p3 :: p4 :: p5 :: p6 :: p7 :: p8 :: (x, c) :: r) := .tail (.tail (.tail (.tail (.tail (.tail (.tail (.tail (.tail (.head)))))))))
theorem up10 {p0 p1 p2 p3 p4 p5 p6 p7 p8 p9 : Addr × Cell} {x : Addr} {c c₀ : Cell} {r : Mu} : Up x c (p0 :: p1 :: p2 :: p3 :: p4 :: p5 :: p6 :: p7 :: p8 :: p9 :: (x, c₀) :: r) (p0 :: p1 :: p2 :: p3 :: p4 :: p5 :: p6 :: p7 :: p8 :: p9 :: (x, c) :: r) := .tail (.tail (.tail (.tail (.tail (.tail (.tail (.tail (.tail (.tail (.head))))))))))
theorem mm1 {α : Type _} {p0 x : α} {r : List α} : x ∈ p0 :: x :: r := .tail _ (.head _)
theorem mm2 {α : Type _} {p0 p1 x : α} {r : List α} : x ∈ p0 :: p1 :: x :: r := .tail _ (.tail _ (.head _))
theorem mm3 {α : Type _} {p0 p1 p2 x : α} {r : List α} : x ∈ p0 :: p1 :: p2 :: x :: r := .tail _ (.tail _ (.tail _ (.head _)))
theorem mm4 {α : Type _} {p0 p1 p2 p3 x : α} {r : List α} : x ∈ p0 :: p1 :: p2 :: p3 :: x :: r := .tail _ (.tail _ (.tail _ (.tail _ (.head _))))
theorem mm5 {α : Type _} {p0 p1 p2 p3 p4 x : α} {r : List α} : x ∈ p0 :: p1 :: p2 :: p3 :: p4 :: x :: r := .tail _ (.tail _ (.tail _ (.tail _ (.tail _ (.head _)))))
theorem mm6 {α : Type _} {p0 p1 p2 p3 p4 p5 x : α} {r : List α} : x ∈ p0 :: p1 :: p2 :: p3 :: p4 :: p5 :: x :: r := .tail _ (.tail _ (.tail _ (.tail _ (.tail _ (.tail _ (.head _))))))
theorem mm7 {α : Type _} {p0 p1 p2 p3 p4 p5 p6 x : α} {r : List α} : x ∈ p0 :: p1 :: p2 :: p3 :: p4 :: p5 :: p6 :: x :: r := .tail _ (.tail _ (.tail _ (.tail _ (.tail _ (.tail _ (.tail _ (.head _)))))))
theorem mm8 {α : Type _} {p0 p1 p2 p3 p4 p5 p6 p7 x : α} {r : List α} : x ∈ p0 :: p1 :: p2 :: p3 :: p4 :: p5 :: p6 :: p7 :: x :: r := .tail _ (.tail _ (.tail _ (.tail _ (.tail _ (.tail _ (.tail _ (.tail _ (.head _))))))))
theorem mm9 {α : Type _} {p0 p1 p2 p3 p4 p5 p6 p7 p8 x : α} {r : List α} : x ∈ p0 :: p1 :: p2 :: p3 :: p4 :: p5 :: p6 :: p7 :: p8 :: x :: r := .tail _ (.tail _ (.tail _ (.tail _ (.tail _ (.tail _ (.tail _ (.tail _ (.tail _ (.head _)))))))))
theorem mm10 {α : Type _} {p0 p1 p2 p3 p4 p5 p6 p7 p8 p9 x : α} {r : List α} : x ∈ p0 :: p1 :: p2 :: p3 :: p4 :: p5 :: p6 :: p7 :: p8 :: p9 :: x :: r := .tail _ (.tail _ (.tail _ (.tail _ (.tail _ (.tail _ (.tail _ (.tail _ (.tail _ (.tail _ (.head _))))))))))
theorem mm11 {α : Type _} {p0 p1 p2 p3 p4 p5 p6 p7 p8 p9 p10 x : α} {r : List α} : x ∈ p0 :: p1 :: p2 :: p3 :: p4 :: p5 :: p6 :: p7 :: p8 :: p9 :: p10 :: x :: r := .tail _ (.tail _ (.tail _ (.tail _ (.tail _ (.tail _ (.tail _ (.tail _ (.tail _ (.tail _ (.tail _ (.head _)))))))))))
theorem mm12 {α : Type _} {p0 p1 p2 p3 p4 p5 p6 p7 p8 p9 p10 p11 x : α} {r : List α} : x ∈ p0 :: p1 :: p2 :: p3 :: p4 :: p5 :: p6 :: p7 :: p8 :: p9 :: p10 :: p11 :: x :: r := .tail _ (.tail _ (.tail _ (.tail _ (.tail _ (.tail _ (.tail _ (.tail _ (.tail _ (.tail _ (.tail _ (.tail _ (.head _))))))))))))
end Pg
end
section
open PySem PySem.W PyProof.Rows
namespace Pg
noncomputable abbrev Fs := List (Str × Option Value)
noncomputable def look (fs : Fs) (x : Str) : Option Value := (fs.lookup x).join
noncomputable def dct (fs : Fs) : Cell := fun o => (fs.map (·.1)).Nodup ∧ ∃ es ep, o.data = .dict es ep ∧ StrKeys es ∧ ∀ x, nsFind es x = look fs x
noncomputable def frm (env : Env) (fs : Fs) : Cell := fun o => dct fs o ∧ ∀ p ∈ fs, env.kindOf p.1 = some .local
noncomputable def lst (vs : List Value) : Cell := fun o => ∃ n, o = { cls := .type "list", data := .seq vs.toArray n }
noncomputable def lsi (vs : List Value) : Cell := fun o => o.cls = .type "list" ∧ ∃ n, o.data = .seq vs.toArray n
noncomputable def tup (vs : List Value) : Cell := fun o => ∃ n, o = { cls := .type "tuple", data := .seq vs.toArray n }
class inductive Lk : Fs → Str → Value → Prop
  | head {x : Str} {v : Value} {r : Fs} : Lk ((x, some v) :: r) x v
  | tail {p : Str × Option Value} {x : Str} {v : Value} {r : Fs} (t : Lk r x v) : Lk (p :: r) x v
class inductive Sl : Fs → Str → Value → Fs → Prop
  | head {x : Str} {o : Option Value} {v : Value} {r : Fs} : Sl ((x, o) :: r) x v ((x, some v) :: r)
  | tail {p : Str × Option Value} {x : Str} {v : Value} {r r' : Fs} (t : Sl r x v r') : Sl (p :: r) x v (p :: r')
theorem lk1 {p0 : Str × Option Value} {x : Str} {v : Value} {r : Fs} : Lk (p0 :: (x, some v) :: r) x v := .tail (.head)
theorem lk2 {p0 p1 : Str × Option Value} {x : Str} {v : Value} {r : Fs} : Lk (p0 :: p1 :: (x, some v) :: r) x v := .tail (.tail (.head))
theorem lk3 {p0 p1 p2 : Str × Option Value} {x : Str} {v : Value} {r : Fs} : Lk (p0 :: p1 :: p2 :: (x, some v) :: r) x v := .tail (.tail (.tail (.head)))
theorem lk4 {p0 p1 p2 p3 : Str × Option Value} {x : Str} {v : Value} {r : Fs} : Lk (p0 :: p1 :: p2 :: p3 :: (x, some v) :: r) x v := .tail (.tail (.tail (.tail (.head))))
theorem lk5 {p0 p1 p2 p3 p4 : Str × Option Value} {x : Str} {v : Value} {r : Fs} : Lk (p0 :: p1 :: p2 :: p3 :: p4 :: (x, some v) :: r) x v := .tail (.tail (.tail (.tail (.tail (.head)))))
theorem lk6 {p0 p1 p2 p3 p4 p5 : Str × Option Value} {x : Str} {v : Value} {r : Fs} : Lk (p0 :: p1 :: p2 :: p3 :: p4 :: p5 :: (x, some v) :: r) x v := .tail (.tail (.tail (.tail (.tail (.tail (.head))))))
theorem lk7 {p0 p1 p2 p3 p4 p5 p6 : Str × Option Value} {x : Str} {v : Value} {r : Fs} : Lk (p0 :: p1 :: p2 :: p3 :: p4 :: p5 :: p6 :: (x, some v) :: r) x v := .tail (.tail (.tail (.tail (.tail (.tail (.tail (.head)))))))
theorem lk8 {p0 p1 p2 p3 p4 p5 p6 p7 : Str × Option Value} {x : Str} {v : Value} {r : Fs} : Lk (p0 :: p1 :: p2 :: p3 :: p4 :: p5 :: p6 :: p7 :: (x, some v) :: r) x v := .tail (.tail (.tail (.tail (.tail (.tail (.tail (.tail (.head))))))))
theorem lk9 {p0 p1 p2 p3 p4 p5 p6 p7 p8 : Str × Option Value} {x : Str} {v : Value} {r : Fs} : Lk (p0 :: p1 :: p2 :: p3 :: p4 :: p5 :: p6 :: p7 :: p8 :: (x, some v) :: r) x v := .tail (.tail (.tail (.tail (.tail (.tail (.tail (.tail (.tail (.head)))))))))
theorem lk10 {p0 p1 p2 p3 p4 p5 p6 p7 p8 p9 : Str × Option Value} {x : Str} {v : Value} {r : Fs} : Lk (p0 :: p1 :: p2 :: p3 :: p4 :: p5 :: p6 :: p7 :: p8 :: p9 :: (x, some v) :: r) x v := .tail (.tail (.tail (.tail (.tail (.tail (.tail (.tail (.tail (.tail (.head))))))))))
theorem lk11 {p0 p1 p2 p3 p4 p5 p6 p7 p8 p9 p10 : Str × Option Value} {x : Str} {v : Value} {r : Fs} : Lk (p0 :: p1 :: p2 :: p3 :: p4 :: p5 :: p6 :: p7 :: p8 :: p9 :: p10 :: (x, some v) :: r) x v := .tail (.tail (.tail (.tail (.tail (.tail (.tail (.tail (.tail (.tail (.tail (.head)))))))))))
theorem lk12 {p0 p1 p2 p3 p4 p5 p6 p7 p8 p9 p10 p11 : Str × Option Value} {x : Str} {v : Value} {r : Fs} : Lk (p0 :: p1 :: p2 :: p3 :: p4 :: p5 :: p6 :: p7 :: p8 :: p9 :: p10 :: p11 :: (x, some v) :: r) x v := .tail (.tail (.tail (.tail (.tail (.tail (.tail (.tail (.tail (.tail (.tail (.tail (.head))))))))))))
theorem sl1 {p0 : Str × Option Value} {x : Str} {o : Option Value} {v : Value} {r : Fs} : Sl (p0 :: (x, o) :: r) x v (p0 :: (x, some v) :: r) := .tail (.head)
theorem sl2 {p0 p1 : Str × Option Value} {x : Str} {o : Option Value} {v : Value} {r : Fs} : Sl (p0 :: p1 :: (x, o) :: r) x v (p0 :: p1 :: (x, some v) :: r) := .tail (.tail (.head))
theorem sl3 {p0 p1 p2 : Str × Option Value} {x : Str} {o : Option Value} {v : Value} {r : Fs} : Sl (p0 :: p1 :: p2 :: (x, o) :: r) x v (p0 :: p1 :: p2 :: (x, some v) :: r) := .tail (.tail (.tail (.head)))
theorem sl4 {p0 p1 p2 p3 : Str × Option Value} {x : Str} {o : Option Value} {v : Value} {r : Fs} : Sl (p0 :: p1 :: p2 :: p3 :: (x, o) :: r) x v (p0 :: p1 :: p2 :: p3 :: (x, some v) :: r) := .tail (.tail (.tail (.tail (.head))))
theorem sl5 {p0 p1 p2 p3 p4 : Str × Option Value} {x : Str} {o : Option Value} {v : Value} {r : Fs} : Sl (p0 :: p1 :: p2 :: p3 :: p4 :: (x, o) :: r) x v (p0 :: p1 :: p2 :: p3 :: p4 :: (x, some v) :: r) := .tail (.tail (.tail (.tail (.tail (.head)))))
theorem sl6 {p0 p1 p2 p3 p4 p5 : Str × Option Value} {x : Str} {o : Option Value} {v : Value} {r : Fs} : Sl (p0 :: p1 :: p2 :: p3 :: p4 :: p5 :: (x, o) :: r) x v (p0 :: p1 :: p2 :: p3 :: p4 :: p5 :: (x, some v) :: r) := .tail (.tail (.tail (.tail (.tail (.tail (.head))))))
theorem sl7 {p0 p1 p2 p3 p4 p5 p6 : Str × Option Value} {x : Str} {o : Option Value} {v : Value} {r : Fs} : Sl (p0 :: p1 :: p2 :: p3 :: p4 :: p5 :: p6 :: (x, o) :: r) x v (p0 :: p1 :: p2 :: p3 :: p4 :: p5 :: p6 :: (x, some v) :: r) := .tail (.tail (.tail (.tail (.tail (.tail (.tail (.head)))))))
theorem sl8 {p0 p1 p2 p3 p4 p5 p6 p7 : Str × Option Value} {x : Str} {o : Option Value} {v : Value} {r : Fs} : Sl (p0 :: p1 :: p2 :: p3 :: p4 :: p5 :: p6 :: p7 :: (x, o) :: r) x v (p0 :: p1 :: p2 :: p3 :: p4 :: p5 :: p6 :: p7 :: (x, some v) :: r) := .tail (.tail (.tail (.tail (.tail (.tail (.tail (.tail (.head))))))))
theorem sl9 {p0 p1 p2 p3 p4 p5 p6 p7 p8 : Str × Option Value} {x : Str} {o : Option Value} {v : Value} {r : Fs} : Sl (p0 :: p1 :: p2 :: p3 :: p4 :: p5 :: p6 :: p7 :: p8 :: (x, o) :: r) x v (p0 :: p1 :: p2 :: p3 :: p4 :: p5 :: p6 :: p7 :: p8 :: (x, some v) :: r) := .tail (.tail (.tail (.tail (.tail (.tail (.tail (.tail (.tail (.head)))))))))
theorem sl10 {p0 p1 p2 p3 p4 p5 p6 p7 p8 p9 : Str × Option Value} {x : Str} {o : Option Value} {v : Value} {r : Fs} : Sl (p0 :: p1 :: p2 :: p3 :: p4 :: p5 :: p6 :: p7 :: p8 :: p9 :: (x, o) :: r) x v (p0 :: p1 :: p2 :: p3 :: p4 :: p5 :: p6 :: p7 :: p8 :: p9 :: (x, some v) :: r) := .tail (.tail (.tail (.tail (.tail (.tail (.tail (.tail (.tail (.tail (.head))))))))))
theorem sl11 {p0 p1 p2 p3 p4 p5 p6 p7 p8 p9 p10 : Str × Option Value} {x : Str} {o : Option Value} {v : Value} {r : Fs} : Sl (p0 :: p1 :: p2 :: p3 :: p4 :: p5 :: p6 :: p7 :: p8 :: p9 :: p10 :: (x, o) :: r) x v (p0 :: p1 :: p2 :: p3 :: p4 :: p5 :: p6 :: p7 :: p8 :: p9 :: p10 :: (x, some v) :: r) := .tail (.tail (.tail (.tail (.tail (.tail (.tail (.tail (.tail (.tail (.tail (.head)))))))))))
theorem sl12 {p0 p1 p2 p3 p4 p5 p6 p7 p8 p9 p10 p11 : Str × Option Value} {x : Str} {o : Option Value} {v : Value} {r : Fs} : Sl (p0 :: p1 :: p2 :: p3 :: p4 :: p5 :: p6 :: p7 :: p8 :: p9 :: p10 :: p11 :: (x, o) :: r) x v (p0 :: p1 :: p2 :: p3 :: p4 :: p5 :: p6 :: p7 :: p8 :: p9 :: p10 :: p11 :: (x, some v) :: r) := .tail (.tail (.tail (.tail (.tail (.tail (.tail (.tail (.tail (.tail (.tail (.tail (.head))))))))))))
theorem Lk.mem {fs : Fs} {x : Str} {v : Value} (k : Lk fs x v) : (x, some v) ∈ fs := by
 induction k with
 | head => exact .head _
 | tail _ ih => exact .tail _ ih
theorem look_of_mem {fs : Fs} {x : Str} {v : Value} (nd : (fs.map (·.1)).Nodup) (h : (x, some v) ∈ fs) : look fs x = some v := by
 induction fs with
 | nil => cases h
 | cons p r ih =>
  obtain ⟨y, o⟩ := p
  have z := List.nodup_cons.mp nd
  unfold look
  rw [List.lookup_cons]
  rcases List.mem_cons.mp h with e | e
  ·cases e; simp
  ·have ne : (x == y) = false := by
    rw [beq_eq_false_iff_ne]; intro q; subst q; exact z.1 (List.mem_map_of_mem (f := (·.1)) e)
   rw [ne]; exact ih z.2 e
theorem Lk.look {fs : Fs} {x : Str} {v : Value} (k : Lk fs x v) (nd : (fs.map (·.1)).Nodup) : look fs x = some v := look_of_mem nd k.mem
theorem Sl.keys {fs fs' : Fs} {x : Str} {v : Value} (k : Sl fs x v fs') : fs'.map (·.1) = fs.map (·.1) := by
 induction k with
 | head => rfl
 | tail _ ih => rw [List.map_cons, List.map_cons, ih]
theorem Sl.here {fs fs' : Fs} {x : Str} {v : Value} (k : Sl fs x v fs') : x ∈ fs.map (·.1) := by
 induction k with
 | head => exact .head _
 | tail _ ih => exact .tail _ ih
theorem Sl.look {fs fs' : Fs} {x : Str} {v : Value} (k : Sl fs x v fs') (nd : (fs.map (·.1)).Nodup) (y : Str) : look fs' y = if y = x then some v else look fs y := by
 induction k with
 | head =>
  unfold Pg.look; rw [List.lookup_cons, List.lookup_cons]
  rename_i x o v r
  by_cases q : y = x
  ·subst q; simp
  ·have : (y == x) = false := beq_eq_false_iff_ne.mpr q
   rw [this, if_neg q]
 | tail s ih =>
  rename_i p x v r r'
  obtain ⟨z, o⟩ := p
  have nd' := List.nodup_cons.mp nd
  have ih : (r'.lookup y).join = if y = x then some v else (r.lookup y).join := ih nd'.2
  show ((((z, o) :: r').lookup y)).join = if y = x then some v else (((z, o) :: r).lookup y).join
  rw [List.lookup_cons, List.lookup_cons]
  by_cases q : y = z
  ·subst q
   have ne : y ≠ x := fun e => nd'.1 (e ▸ s.here)
   rw [if_neg ne]; simp
  ·have : (y == z) = false := beq_eq_false_iff_ne.mpr q
   rw [this]; exact ih
theorem Sl.mem {fs fs' : Fs} {x : Str} {v : Value} (k : Sl fs x v fs') : ∀ p ∈ fs', ∃ q ∈ fs, q.1 = p.1 := fun p hp => by
 have : p.1 ∈ fs'.map (·.1) := List.mem_map_of_mem hp
 rw [k.keys] at this
 obtain ⟨q, hq, e⟩ := List.mem_map.mp this
 exact ⟨q, hq, e⟩
theorem dct_ns {h : Heap} {a : Addr} {fs : Fs} (x : Has h a (dct fs)) : h.Ns a (look fs) := by
 obtain ⟨o, e, _, es, ep, d, s, f⟩ := x
 exact ⟨o, es, ep, e, d, s, f⟩
theorem ns_dct {h : Heap} {a : Addr} {fs : Fs} {m : Str → Option Value} (x : h.Ns a m) (nd : (fs.map (·.1)).Nodup) (e : ∀ y, m y = look fs y) : Has h a (dct fs) := by
 obtain ⟨o, es, ep, q, d, s, f⟩ := x
 exact ⟨o, q, nd, es, ep, d, s, fun y => (f y).trans (e y)⟩
theorem dct_nd {h : Heap} {a : Addr} {fs : Fs} (x : Has h a (dct fs)) : (fs.map (·.1)).Nodup := by
 obtain ⟨_, _, nd, _⟩ := x
 exact nd
theorem frm_dct {h : Heap} {a : Addr} {env : Env} {fs : Fs} (x : Has h a (frm env fs)) : Has h a (dct fs) := by
 obtain ⟨o, e, k, _⟩ := x
 exact ⟨o, e, k⟩
theorem frm_kind {h : Heap} {a : Addr} {env : Env} {fs : Fs} (x : Has h a (frm env fs)) : ∀ p ∈ fs, env.kindOf p.1 = some .local := by
 obtain ⟨_, _, _, k⟩ := x
 exact k
theorem lst_list {h : Heap} {a : Addr} {vs : List Value} (x : Has h a (lst vs)) : h.IsList a vs.toArray := by
 obtain ⟨o, e, n, k⟩ := x
 exact ⟨o, e, k ▸ rfl, n, k ▸ rfl⟩
theorem lsi_list {h : Heap} {a : Addr} {vs : List Value} (x : Has h a (lsi vs)) : h.IsList a vs.toArray := by
 obtain ⟨o, e, c, n, k⟩ := x
 exact ⟨o, e, c, n, k⟩
theorem tup_tup {h : Heap} {a : Addr} {vs : List Value} (x : Has h a (tup vs)) : IsTup h a vs.toArray := by
 obtain ⟨o, e, n, k⟩ := x
 exact ⟨o, e, k ▸ rfl, n, k ▸ rfl⟩
section
variable {F F' : Fz} {h : Heap}
theorem Base.keep (B : Base F) (s : Sub F h) : ∃ hb mg mb, K.In hb ∧ hb.NoLimit ∧ hb.Ns mainGlobals mg ∧ hb.Ns builtinsNs mb ∧ (∀ x : Str, x ≠ "__name__" → mb x = bootBuiltins x) ∧ ∀ a o, hb.get? a = some o → h.get? a = some o := by
 obtain ⟨hb, mg, mb, a, b, c, d, e, f⟩ := B
 refine ⟨hb, mg, mb, a, b, c, d, e, fun x o q => ?_⟩
 obtain ⟨o', z, w⟩ := s x _ (f x o q)
 rw [z, show o' = o from w]
theorem Base.kin (B : Base F) (s : Sub F h) : K.In h := by
 obtain ⟨_, _, _, a, _, _, _, _, f⟩ := B.keep s
 exact a.keeps f
theorem Base.lim (B : Base F) (s : Sub F h) : h.NoLimit := by
 obtain ⟨_, _, _, _, b, _, _, _, f⟩ := B.keep s
 exact b.keeps f
theorem Fm.now {h₀ : Heap} {F₀ : Fz} {W : List Addr} {mu : Mu} (f : Fm h₀ F₀ W mu F h) : Base F := f.base.mono f.ext.le
theorem Fm.kin {h₀ : Heap} {F₀ : Fz} {W : List Addr} {mu : Mu} (f : Fm h₀ F₀ W mu F h) : K.In h := f.now.kin f.ext.fz
end
inductive Gv (x : Str) (v : Value) : Prop
  | own : nsIn K mainGlobals x = some (some v) → Gv x v
  | bi : nsIn K mainGlobals x = some none → bootBuiltins x = some v → x ≠ "__name__" → Gv x v
noncomputable abbrev Gt := List (Str × Value)
class inductive Gk : Gt → Str → Value → Prop
  | head {x : Str} {v : Value} {r : Gt} : Gk ((x, v) :: r) x v
  | tail {p : Str × Value} {x : Str} {v : Value} {r : Gt} (t : Gk r x v) : Gk (p :: r) x v
theorem gk1 {p0 : Str × Value} {x : Str} {v : Value} {r : Gt} : Gk (p0 :: (x, v) :: r) x v := .tail (.head)
theorem gk2 {p0 p1 : Str × Value} {x : Str} {v : Value} {r : Gt} : Gk (p0 :: p1 :: (x, v) :: r) x v := .tail (.tail (.head))
theorem gk3 {p0 p1 p2 : Str × Value} {x : Str} {v : Value} {r : Gt} : Gk (p0 :: p1 :: p2 :: (x, v) :: r) x v := .tail (.tail (.tail (.head)))
theorem gk4 {p0 p1 p2 p3 : Str × Value} {x : Str} {v : Value} {r : Gt} : Gk (p0 :: p1 :: p2 :: p3 :: (x, v) :: r) x v := .tail (.tail (.tail (.tail (.head))))
theorem gk5 {p0 p1 p2 p3 p4 : Str × Value} {x : Str} {v : Value} {r : Gt} : Gk (p0 :: p1 :: p2 :: p3 :: p4 :: (x, v) :: r) x v := .tail (.tail (.tail (.tail (.tail (.head)))))
theorem gk6 {p0 p1 p2 p3 p4 p5 : Str × Value} {x : Str} {v : Value} {r : Gt} : Gk (p0 :: p1 :: p2 :: p3 :: p4 :: p5 :: (x, v) :: r) x v := .tail (.tail (.tail (.tail (.tail (.tail (.head))))))
theorem gk7 {p0 p1 p2 p3 p4 p5 p6 : Str × Value} {x : Str} {v : Value} {r : Gt} : Gk (p0 :: p1 :: p2 :: p3 :: p4 :: p5 :: p6 :: (x, v) :: r) x v := .tail (.tail (.tail (.tail (.tail (.tail (.tail (.head)))))))
theorem gk8 {p0 p1 p2 p3 p4 p5 p6 p7 : Str × Value} {x : Str} {v : Value} {r : Gt} : Gk (p0 :: p1 :: p2 :: p3 :: p4 :: p5 :: p6 :: p7 :: (x, v) :: r) x v := .tail (.tail (.tail (.tail (.tail (.tail (.tail (.tail (.head))))))))
theorem gk9 {p0 p1 p2 p3 p4 p5 p6 p7 p8 : Str × Value} {x : Str} {v : Value} {r : Gt} : Gk (p0 :: p1 :: p2 :: p3 :: p4 :: p5 :: p6 :: p7 :: p8 :: (x, v) :: r) x v := .tail (.tail (.tail (.tail (.tail (.tail (.tail (.tail (.tail (.head)))))))))
theorem gk10 {p0 p1 p2 p3 p4 p5 p6 p7 p8 p9 : Str × Value} {x : Str} {v : Value} {r : Gt} : Gk (p0 :: p1 :: p2 :: p3 :: p4 :: p5 :: p6 :: p7 :: p8 :: p9 :: (x, v) :: r) x v := .tail (.tail (.tail (.tail (.tail (.tail (.tail (.tail (.tail (.tail (.head))))))))))
theorem gk11 {p0 p1 p2 p3 p4 p5 p6 p7 p8 p9 p10 : Str × Value} {x : Str} {v : Value} {r : Gt} : Gk (p0 :: p1 :: p2 :: p3 :: p4 :: p5 :: p6 :: p7 :: p8 :: p9 :: p10 :: (x, v) :: r) x v := .tail (.tail (.tail (.tail (.tail (.tail (.tail (.tail (.tail (.tail (.tail (.head)))))))))))
theorem gk12 {p0 p1 p2 p3 p4 p5 p6 p7 p8 p9 p10 p11 : Str × Value} {x : Str} {v : Value} {r : Gt} : Gk (p0 :: p1 :: p2 :: p3 :: p4 :: p5 :: p6 :: p7 :: p8 :: p9 :: p10 :: p11 :: (x, v) :: r) x v := .tail (.tail (.tail (.tail (.tail (.tail (.tail (.tail (.tail (.tail (.tail (.tail (.head))))))))))))
theorem gk13 {p0 p1 p2 p3 p4 p5 p6 p7 p8 p9 p10 p11 p12 : Str × Value} {x : Str} {v : Value} {r : Gt} : Gk (p0 :: p1 :: p2 :: p3 :: p4 :: p5 :: p6 :: p7 :: p8 :: p9 :: p10 :: p11 :: p12 :: (x, v) :: r) x v := .tail (.tail (.tail (.tail (.tail (.tail (.tail (.tail (.tail (.tail (.tail (.tail (.tail (.head)))))))))))))
theorem gk14 {p0 p1 p2 p3 p4 p5 p6 p7 p8 p9 p10 p11 p12 p13 : Str × Value} {x : Str} {v : Value} {r : Gt} : Gk (p0 :: p1 :: p2 :: p3 :: p4 :: p5 :: p6 :: p7 :: p8 :: p9 :: p10 :: p11 :: p12 :: p13 :: (x, v) :: r) x v := .tail (.tail (.tail (.tail (.tail (.tail (.tail (.tail (.tail (.tail (.tail (.tail (.tail (.tail (.head))))))))))))))
theorem gk15 {p0 p1 p2 p3 p4 p5 p6 p7 p8 p9 p10 p11 p12 p13 p14 : Str × Value} {x : Str} {v : Value} {r : Gt} : Gk (p0 :: p1 :: p2 :: p3 :: p4 :: p5 :: p6 :: p7 :: p8 :: p9 :: p10 :: p11 :: p12 :: p13 :: p14 :: (x, v) :: r) x v := .tail (.tail (.tail (.tail (.tail (.tail (.tail (.tail (.tail (.tail (.tail (.tail (.tail (.tail (.tail (.head)))))))))))))))
theorem gk16 {p0 p1 p2 p3 p4 p5 p6 p7 p8 p9 p10 p11 p12 p13 p14 p15 : Str × Value} {x : Str} {v : Value} {r : Gt} : Gk (p0 :: p1 :: p2 :: p3 :: p4 :: p5 :: p6 :: p7 :: p8 :: p9 :: p10 :: p11 :: p12 :: p13 :: p14 :: p15 :: (x, v) :: r) x v := .tail (.tail (.tail (.tail (.tail (.tail (.tail (.tail (.tail (.tail (.tail (.tail (.tail (.tail (.tail (.tail (.head))))))))))))))))
theorem gk17 {p0 p1 p2 p3 p4 p5 p6 p7 p8 p9 p10 p11 p12 p13 p14 p15 p16 : Str × Value} {x : Str} {v : Value} {r : Gt} : Gk (p0 :: p1 :: p2 :: p3 :: p4 :: p5 :: p6 :: p7 :: p8 :: p9 :: p10 :: p11 :: p12 :: p13 :: p14 :: p15 :: p16 :: (x, v) :: r) x v := .tail (.tail (.tail (.tail (.tail (.tail (.tail (.tail (.tail (.tail (.tail (.tail (.tail (.tail (.tail (.tail (.tail (.head)))))))))))))))))
theorem gk18 {p0 p1 p2 p3 p4 p5 p6 p7 p8 p9 p10 p11 p12 p13 p14 p15 p16 p17 : Str × Value} {x : Str} {v : Value} {r : Gt} : Gk (p0 :: p1 :: p2 :: p3 :: p4 :: p5 :: p6 :: p7 :: p8 :: p9 :: p10 :: p11 :: p12 :: p13 :: p14 :: p15 :: p16 :: p17 :: (x, v) :: r) x v := .tail (.tail (.tail (.tail (.tail (.tail (.tail (.tail (.tail (.tail (.tail (.tail (.tail (.tail (.tail (.tail (.tail (.tail (.head))))))))))))))))))
theorem gk19 {p0 p1 p2 p3 p4 p5 p6 p7 p8 p9 p10 p11 p12 p13 p14 p15 p16 p17 p18 : Str × Value} {x : Str} {v : Value} {r : Gt} : Gk (p0 :: p1 :: p2 :: p3 :: p4 :: p5 :: p6 :: p7 :: p8 :: p9 :: p10 :: p11 :: p12 :: p13 :: p14 :: p15 :: p16 :: p17 :: p18 :: (x, v) :: r) x v := .tail (.tail (.tail (.tail (.tail (.tail (.tail (.tail (.tail (.tail (.tail (.tail (.tail (.tail (.tail (.tail (.tail (.tail (.tail (.head)))))))))))))))))))
theorem Gk.mem {g : Gt} {x : Str} {v : Value} (k : Gk g x v) : (x, v) ∈ g := by
 induction k with
 | head => exact .head _
 | tail _ ih => exact .tail _ ih
structure EnvOk (env : Env) (gt : Gt) : Prop where
  kind : env.scope.kind = .function
  glob : env.globals = mainGlobals
  bi : env.builtins = builtinsNs
  gv : ∀ p ∈ gt, env.kindOf p.1 = some .globalImplicit ∧ (p.1 == ("__debug__" : Str)) = false ∧ Gv p.1 p.2
theorem EnvOk.inter {env : Env} {gt : Gt} (e : EnvOk env gt) : interactive env = false := by
 unfold interactive; rw [e.kind]; rfl
noncomputable def Room (n : Nat) (A : Around) : Prop := A.depth + 3 * n < recursionLimit ∧ A.units + 40 * n < cLine ∧ A.handled = none
theorem Room.deeper {n : Nat} {A : Around} {env : Env} (r : Room (n + 1) A) : Room n (A.deeper env) := by
 obtain ⟨a, b, c⟩ := r
 refine ⟨?_, ?_, c⟩
 ·exact x_uk (by decide) a
 ·exact x_uk (by decide) b
theorem Room.lim {n : Nat} {A : Around} (r : Room n A) : A.depth < recursionLimit := Nat.lt_of_le_of_lt (Nat.le_add_right ..) r.1
theorem Room.un {n : Nat} {A : Around} (r : Room n A) : A.units < cLine := Nat.lt_of_le_of_lt (Nat.le_add_right ..) r.2.1
section
variable {A : Around} {env : Env} {gt : Gt} {h₀ h : Heap} {F₀ F : Fz} {W : List Addr} {mu mv : Mu} {ls : Fs} {tk : Nat}
theorem r_loc {x : Str} {pos : Pos} {v : Value} {Q : Value → Shared → Prop} (e : EnvOk env gt) (f : Fm h₀ F₀ W ((env.locals, frm env ls) :: mu) F h) (k : Lk ls x v) (hd : (x == ("__debug__" : Str)) = false) (q : Q v ⟨h, g, d, tk, os⟩) :
  wpAny (model prog w) A (eval (.Name x pos) env) Q E ⟨h, g, d, tk, os⟩ := by
 have z := (f.mus.has _ (.head _)).1
 have z' := frm_dct z
 exact wpAny_Name (wpAny_loadName_local e.kind (frm_kind z _ k.mem) (dct_ns z') (k.look (dct_nd z')) q) hd
theorem r_glo {x : Str} {pos : Pos} {v : Value} {Q : Value → Shared → Prop} (e : EnvOk env gt) (f : Fm h₀ F₀ W mu F h) (k : Gk gt x v) (q : Q v ⟨h, g, d, tk, os⟩) :
  wpAny (model prog w) A (eval (.Name x pos) env) Q E ⟨h, g, d, tk, os⟩ := by
 obtain ⟨a, b, c⟩ := e.gv _ k.mem
 obtain ⟨hb, mg, mb, k1, k2, k3, k4, k5, k6⟩   := f.now.keep f.ext.fz
 refine Calls.Name_function_global e.kind a ?_ b
 cases c with
 | own c => exact Calls.loadGlobal_global (by rw [e.glob]; exact k3.keeps k6) (mg_of k1 k3 c) q
 | bi c1 c2 c3 => exact Calls.loadGlobal_builtin (by rw [e.glob]; exact k3.keeps k6) (mg_none_of k1 k3 c1) (by rw [e.bi]; exact k4.keeps k6) ((k5 x c3).trans c2) q
theorem r_store {x : Str} {v : Value} {ls' : Fs} {Q : Unit → Shared → Prop} (e : EnvOk env gt) (f : Fm h₀ F₀ W ((env.locals, frm env ls) :: mu) F h) (k : Sl ls x v ls')
  (q : ∀ h' tk', Fm h₀ F₀ W ((env.locals, frm env ls') :: mu) F h' → Q () ⟨h', g, d, tk', os⟩) :
  wpAny (model prog w) A (storeName env x v) Q E ⟨h, g, d, tk, os⟩ := by
 have z := (f.mus.has _ (.head _)).1
 have z' := frm_dct z
 have kk := frm_kind z
 obtain ⟨p, hp, rfl⟩ := List.mem_map.mp k.here
 refine wpAny_storeName_local (kk p hp) (dct_ns z') (fun h' n s => q h' _ (f.turn .head (fun b o nb eb => (s.2 b nb).trans eb) ?_)) (by rw [e.kind]; rfl)
 obtain ⟨o, e1, e2⟩ := ns_dct (fs := ls') n (k.keys ▸ dct_nd z') (fun y => (k.look (dct_nd z') y).symm)
 refine ⟨o, e1, e2, fun p hp => ?_⟩
 obtain ⟨q, hq, e⟩ := k.mem p hp
 exact e ▸ kk q hq
theorem r_int {i : Int} {k : Nat} {pos : Pos} {Q : Value → Shared → Prop} (q : ∀ t tk', Q (.int i t) ⟨h, g, d, tk', os⟩) : wpAny (model prog w) A (eval (.Constant (.int i) k pos) env) Q E ⟨h, g, d, tk, os⟩ := wpAny_Constant_int (q _ _)
theorem r_str {x : Str} {k : Nat} {pos : Pos} {Q : Value → Shared → Prop} (q : ∀ t tk', Q (.str x t) ⟨h, g, d, tk', os⟩) : wpAny (model prog w) A (eval (.Constant (.str x) k pos) env) Q E ⟨h, g, d, tk, os⟩ := Calls.Constant_str (q _ _)
theorem r_none {k : Nat} {pos : Pos} {Q : Value → Shared → Prop} (q : Q .none ⟨h, g, d, tk, os⟩) : wpAny (model prog w) A (eval (.Constant .none k pos) env) Q E ⟨h, g, d, tk, os⟩ := wpAny_Constant_none q
theorem r_bool {b : Bool} {k : Nat} {pos : Pos} {Q : Value → Shared → Prop} (q : Q (.bool b) ⟨h, g, d, tk, os⟩) : wpAny (model prog w) A (eval (.Constant (.bool b) k pos) env) Q E ⟨h, g, d, tk, os⟩ := wpAny_Constant_bool q
variable {a b : Int} {t u : Tok}
theorem r_add {Q : Value → Shared → Prop} (q : ∀ t tk', Q (.int (a + b) t) ⟨h, g, d, tk', os⟩) : wpAny (model prog w) A (binaryOp .Add (.int a t) (.int b u)) Q E ⟨h, g, d, tk, os⟩ := PyProof.Rows.add_int (q _ _)
theorem r_minus {Q : Value → Shared → Prop} (q : ∀ t tk', Q (.int (a - b) t) ⟨h, g, d, tk', os⟩) : wpAny (model prog w) A (binaryOp .Sub (.int a t) (.int b u)) Q E ⟨h, g, d, tk, os⟩ := PyProof.Rows.sub_int (q _ _)
theorem r_mul {Q : Value → Shared → Prop} (hm : IntMulOk a b) (q : ∀ t tk', Q (.int (a * b) t) ⟨h, g, d, tk', os⟩) : wpAny (model prog w) A (binaryOp .Mult (.int a t) (.int b u)) Q E ⟨h, g, d, tk, os⟩ := PyProof.Rows.mul_int (q _ _) hm
theorem r_mod {Q : Value → Shared → Prop} (hb : b ≠ 0) (q : ∀ t tk', Q (.int (a.fmod b) t) ⟨h, g, d, tk', os⟩) : wpAny (model prog w) A (binaryOp .Mod (.int a t) (.int b u)) Q E ⟨h, g, d, tk, os⟩ := PyProof.Rows.mod_int hb (q _ _)
theorem r_div {Q : Value → Shared → Prop} (hb : b ≠ 0) (hp : b.natAbs < 2 ^ 200) (q : ∀ t tk', Q (.int (a.fdiv b) t) ⟨h, g, d, tk', os⟩) : wpAny (model prog w) A (binaryOp .FloorDiv (.int a t) (.int b u)) Q E ⟨h, g, d, tk, os⟩ :=
 PyProof.Rows.floordiv_int hb (q _ _) (.inl (PyProof.noPylong_of_log2 (by
  by_cases z : b.natAbs = 0
  ·rw [z]; decide +kernel
  ·have := (Nat.log2_lt z).mpr hp; k_extra "om")))
theorem r_lt {Q : Value → Shared → Prop} (q : Q (.bool (decide (a < b))) ⟨h, g, d, tk, os⟩) : wpAny (model prog w) A (compareOp .Lt (.int a t) (.int b u)) Q E ⟨h, g, d, tk, os⟩ := PyProof.Rows.lt_int q
theorem r_gt {Q : Value → Shared → Prop} (q : Q (.bool (decide (b < a))) ⟨h, g, d, tk, os⟩) : wpAny (model prog w) A (compareOp .Gt (.int a t) (.int b u)) Q E ⟨h, g, d, tk, os⟩ := PyProof.Rows.gt_int q
theorem r_le {Q : Value → Shared → Prop} (q : Q (.bool (decide (a ≤ b))) ⟨h, g, d, tk, os⟩) : wpAny (model prog w) A (compareOp .LtE (.int a t) (.int b u)) Q E ⟨h, g, d, tk, os⟩ := PyProof.Rows.le_int q
theorem r_eq {Q : Value → Shared → Prop} (q : Q (.bool (a == b)) ⟨h, g, d, tk, os⟩) : wpAny (model prog w) A (compareOp .Eq (.int a t) (.int b u)) Q E ⟨h, g, d, tk, os⟩ := PyProof.Rows.eq_int q
theorem r_ne {Q : Value → Shared → Prop} (q : Q (.bool (a != b)) ⟨h, g, d, tk, os⟩) : wpAny (model prog w) A (compareOp .NotEq (.int a t) (.int b u)) Q E ⟨h, g, d, tk, os⟩ := PyProof.Rows.ne_int q
theorem lookup_none {l : List (Str × Value)} {y : Str} (h : y ∉ l.map (·.1)) : l.lookup y = none := by
 induction l with
 | nil => rfl
 | cons p r ih =>
  obtain ⟨x, v⟩ := p
  have : (y == x) = false := beq_eq_false_iff_ne.mpr fun q => h (q ▸ .head _)
  rw [List.lookup_cons, this]; exact ih fun q => h (.tail _ q)
theorem lookup_mem {l : List (Str × Value)} {y : Str} {v : Value} (nd : (l.map (·.1)).Nodup) (h : (y, v) ∈ l) : l.lookup y = some v := by
 induction l with
 | nil => cases h
 | cons p r ih =>
  obtain ⟨x, u⟩ := p
  have z := List.nodup_cons.mp nd
  rw [List.lookup_cons]
  rcases List.mem_cons.mp h with e | e
  ·cases e; simp
  ·have : (y == x) = false := beq_eq_false_iff_ne.mpr fun q => z.1 (by subst q; exact List.mem_map_of_mem (f := (·.1)) e)
   rw [this]; exact ih z.2 e
theorem lookup_rev {l : List (Str × Value)} (nd : (l.map (·.1)).Nodup) (y : Str) : l.reverse.lookup y = l.lookup y := by
 by_cases h : y ∈ l.map (·.1)
 ·obtain ⟨⟨x, v⟩, hp, rfl⟩ := List.mem_map.mp h
  rw [lookup_mem nd hp]
  exact lookup_mem (by rw [List.map_reverse]; exact (List.reverse_perm _).nodup_iff.mpr nd) (List.mem_reverse.mpr hp)
 ·rw [lookup_none h, lookup_none (by rw [List.map_reverse, List.mem_reverse]; exact h)]
theorem look_some {l : List (Str × Value)} {rest : List Str} (y : Str) : look (l.map (fun p => (p.1, some p.2)) ++ rest.map (fun x => (x, none))) y = l.lookup y := by
 unfold look
 induction l with
 | nil =>
  show ((rest.map fun x => ((x, none) : Str × Option Value)).lookup y).join = none
  induction rest with
  | nil => rfl
  | cons z r ih =>
   rw [List.map_cons, List.lookup_cons]
   cases (y == z) with
   | true => rfl
   | false => exact ih
 | cons p l ih =>
  obtain ⟨x, v⟩ := p
  rw [List.map_cons, List.cons_append, List.lookup_cons, List.lookup_cons]
  cases (y == x) with
  | true => rfl
  | false => exact ih
theorem zip_keys {ps : List Str} {vs : List Value} (h : ps.length = vs.length) : (ps.zip vs).map (·.1) = ps := by
 exact List.map_fst_zip (Nat.le_of_eq h)
noncomputable def Rv (Q : Value → Shared → Prop) : Result → Shared → Prop := fun r s => match r with
  | .ok (.ret v) => Q v s
  | _ => False
noncomputable def Rt (Q : Value → Shared → Prop) : Flow → Shared → Prop := fun f s => Q (match f with | .ret v => v | _ => .none) s
theorem r_use {f : Value} {args : List Value} {Q : Value → Shared → Prop} {s : Shared} (c : codeAny (model prog w) A (.call f ⟨args, []⟩) (Rv Q) s) : wpAny (model prog w) A (call f args) Q E s :=
 wpAny_call (codeAny_mono c fun r s z => by rcases r with e | (v | _ | _ | _) <;> first | exact z.elim | exact z)
theorem enterV {n : Nat} {f : Addr} {name qual : Str} {params : Arguments} {body : List Stmt} {scope : Scope} {dV kV doc pm cdv ct oc : Value} {an od : Option Addr} {osl : Array (Option Value)} {args vals : List Value} {binds : List (Str × Value)} {Q : Value → Shared → Prop}
  (ps rest : List Str) (gt : Gt) (ls : Fs) (hR : Room (n + 1) A) (f0 : Fm h₀ F₀ W mv F h) (ms : Mus F h mu)
  (ho : K.lookup f = some ⟨oc, od, .func (fnOf name qual params body scope dV kV doc pm an cdv ct), osl⟩) (hcd : codeIn K cdv qual = true)
  (hbind : BindsTo ⟨h, g, d, tk, os⟩ (fnOf name qual params body scope dV kV doc pm an cdv ct) ⟨args, []⟩ binds) (hb : binds = ps.zip vals) (hl : (ps.zip vals).map (fun p => (p.1, some p.2)) ++ rest.map (fun x => (x, none)) = ls)
  (hnd : (ps ++ rest).Nodup) (hkl : ((ps ++ rest).all fun x => scope.names.lookup x == some .local) = true) (hkg : (gt.all fun p => scope.names.lookup p.1 == some .globalImplicit && !(p.1 == ("__debug__" : Str))) = true) (hgv : ∀ p ∈ gt, Gv p.1 p.2)
  (hco : scope.isCoroutine = false) (hgen : scope.isGenerator = false) (hk : scope.kind = .function) (hcell : (scope.names.all fun x => x.2 != .cell) = true) (hlen : ps.length = vals.length)
  (go : ∀ env h₁ tk₁, EnvOk env gt → Fm h F (adr mu) ((env.locals, frm env ls) :: mu) F h₁ → Room n (A.deeper env) →
   wpAny (model prog w) (A.deeper env) (execs body env) (Rt Q) E ⟨h₁, g, d, tk₁, os⟩) :
  codeAny (model prog w) A (.call (.ref f) ⟨args, []⟩) (Rv Q) ⟨h, g, d, tk, os⟩ := by
 have B := f0.now
 have sub := f0.ext.fz
 have X := B.kin sub
 subst hb
 have ndk : ((ps.zip vals).map (·.1)).Nodup := by rw [zip_keys hlen]; exact (List.nodup_append.mp hnd).1
 have look_binds : ∀ y, (ps.zip vals).reverse.lookup y = look ls y := fun y => by rw [lookup_rev ndk, ← hl, look_some]
 have keys : ls.map (·.1) = ps ++ rest := by
  rw [← hl, List.map_append, List.map_map, List.map_map]
  congr 1
  ·exact zip_keys hlen
  ·exact List.map_id' _
 refine codeAny_call_def (fd := fnOf name qual params body scope dV kV doc pm an cdv ct) (body := body) (binds := ps.zip vals) hR.lim (X _ _ ho) rfl (B.lim sub) (codeRec_of X hcd) rfl hbind (fun x hx => ?_) (fun x hx => ?_) (fun h₁ hns hk₁ => ?_) hco hgen hk
 ·simpa using List.all_eq_true.mp hcell x hx
 ·have := List.all_eq_true.mp hkl x.1 (List.mem_append_left _ (List.of_mem_zip (a := x.1) (b := x.2) hx).1)
  simpa using this
 ·have L0 : h.get? h.objs.size = none := get_size h
  have hs : h.objs.size < h₁.objs.size := hns.lt
  have fn : F h.objs.size = none := by
   cases q : F h.objs.size with
   | none => rfl
   | some k => exact absurd (sub _ _ q).lt (Nat.lt_irrefl _)
  have nm : h.objs.size ∉ adr mu := fun q => by
   obtain ⟨p, hp, e⟩ := of_mem_adr q
   exact absurd (e ▸ (ms.has p hp).1.lt) (Nat.lt_irrefl _)
  have kk : ∀ c a, Has h a c → Has h₁ a c := fun c a ⟨o, e, k⟩ => ⟨o, hk₁ _ _ e, k⟩
  have hL : Has h₁ h.objs.size (frm (callEnv (fnOf name qual params body scope dV kV doc pm an cdv ct) h.objs.size f) ls) := by
   obtain ⟨o, e1, e2⟩ := ns_dct hns (keys ▸ hnd) look_binds
   refine ⟨o, e1, e2, fun p hp => ?_⟩
   have : p.1 ∈ ps ++ rest := keys ▸ List.mem_map_of_mem (f := (·.1)) hp
   exact beq_iff_eq.mp (List.all_eq_true.mp hkl _ this)
  refine wpAny_mono (go (callEnv (fnOf name qual params body scope dV kV doc pm an cdv ct) h.objs.size f) h₁ _ ⟨hk, rfl, rfl, fun p hp => ?_⟩ ⟨⟨fun a o e _ => hk₁ a o e, Le.rfl, fun a c e => kk _ _ (sub a c e), fun a c e => .inl e⟩, ⟨fun p hp => ?_, ?_⟩, fun p hp => ?_, fun a ha => .tail _ ha, B⟩ hR.deeper) (fun _ _ z => z) fun _ _ z => z.elim
  ·have := List.all_eq_true.mp hkg p hp
   simp only [Bool.and_eq_true, Bool.not_eq_true'] at this
   exact ⟨beq_iff_eq.mp this.1, this.2, hgv p hp⟩
  ·rcases List.mem_cons.mp hp with rfl | hp
   ·exact ⟨hL, fn⟩
   ·exact ⟨kk _ _ (ms.has p hp).1, (ms.has p hp).2⟩
  ·exact List.nodup_cons.mpr ⟨nm, ms.nd⟩
  ·rcases List.mem_cons.mp hp with rfl | hp
   ·exact .inr L0
   ·exact .inl (mem_adr hp)
theorem enter {n : Nat} {f : Addr} {name qual : Str} {params : Arguments} {body : List Stmt} {scope : Scope} {dV kV doc pm cdv ct oc : Value} {an od : Option Addr} {osl : Array (Option Value)} {args : List Value} {binds : List (Str × Value)} {Q : Value → Shared → Prop}
  (ps rest : List Str) (gt : Gt) (ls : Fs) (hR : Room (n + 1) A) (f0 : Fm h₀ F₀ W mv F h) (ms : Mus F h mu)
  (ho : K.lookup f = some ⟨oc, od, .func (fnOf name qual params body scope dV kV doc pm an cdv ct), osl⟩) (hcd : codeIn K cdv qual = true)
  (hbind : BindsTo ⟨h, g, d, tk, os⟩ (fnOf name qual params body scope dV kV doc pm an cdv ct) ⟨args, []⟩ binds) (hb : binds = ps.zip args) (hl : (ps.zip args).map (fun p => (p.1, some p.2)) ++ rest.map (fun x => (x, none)) = ls)
  (hnd : (ps ++ rest).Nodup) (hkl : ((ps ++ rest).all fun x => scope.names.lookup x == some .local) = true) (hkg : (gt.all fun p => scope.names.lookup p.1 == some .globalImplicit && !(p.1 == ("__debug__" : Str))) = true) (hgv : ∀ p ∈ gt, Gv p.1 p.2)
  (hco : scope.isCoroutine = false) (hgen : scope.isGenerator = false) (hk : scope.kind = .function) (hcell : (scope.names.all fun x => x.2 != .cell) = true) (hlen : ps.length = args.length)
  (go : ∀ env h₁ tk₁, EnvOk env gt → Fm h F (adr mu) ((env.locals, frm env ls) :: mu) F h₁ → Room n (A.deeper env) →
   wpAny (model prog w) (A.deeper env) (execs body env) (Rt Q) E ⟨h₁, g, d, tk₁, os⟩) :
  codeAny (model prog w) A (.call (.ref f) ⟨args, []⟩) (Rv Q) ⟨h, g, d, tk, os⟩ :=
 enterV (vals := args) ps rest gt ls hR f0 ms ho hcd hbind hb hl hnd hkl hkg hgv hco hgen hk hcell hlen go
end
end Pg
end
section
open PySem PySem.W PyProof.Rows PySem.Calls
namespace Pg
noncomputable def Kt {α : Type} (Q P : α → Shared → Prop) : Prop := ∀ v s, Q v s → P v s
theorem kt_go {α : Type} {Q P : α → Shared → Prop} {v : α} {s : Shared} (k : Kt Q P) (q : Q v s) : P v s := k v s q
noncomputable def Gen {α : Type} (Q : α → Shared → Prop) (G : (α → Shared → Prop) → Prop) : Prop := ∀ P, Kt Q P → G P
theorem gen_i {α : Type} {Q : α → Shared → Prop} {G : (α → Shared → Prop) → Prop} (q : ∀ P, Kt Q P → G P) : Gen Q G := q
theorem Gen.of {α : Type} {Q : α → Shared → Prop} {G : (α → Shared → Prop) → Prop} (q : Gen Q G) : G Q := q Q fun _ _ z => z
noncomputable def Nx (M : Model) (A : Around) (env : Env) (rest : List Stmt) (Q : Flow → Shared → Prop) (E : Value → Shared → Prop) : Flow → Shared → Prop := fun f s =>
  match f with
  | .next => wpAny M A (execs rest env) Q E s
  | f => Q f s
section
variable {A : Around} {env : Env} {gt : Gt} {h₀ h : Heap} {F₀ F : Fz} {W : List Addr} {mu : Mu} {ls : Fs} {tk : Nat} {s : Shared} {QF : Flow → Shared → Prop}
theorem x_cons {st : Stmt} {rest : List Stmt} (q : wpAny (model prog w) A (exec st env) (Nx (model prog w) A env rest QF E) E s) : wpAny (model prog w) A (execs (st :: rest) env) QF E s := wpAny_execs_cons q
theorem nx_next {rest : List Stmt} (q : wpAny (model prog w) A (execs rest env) QF E s) : Nx (model prog w) A env rest QF E .next s := q
theorem nx_ret {rest : List Stmt} {v : Value} (q : QF (.ret v) s) : Nx (model prog w) A env rest QF E (.ret v) s := q
theorem rt_ret {Q : Value → Shared → Prop} {v : Value} (q : Q v s) : Rt Q (.ret v) s := q
theorem rt_next {Q : Value → Shared → Prop} (q : Q .none s) : Rt Q .next s := q
theorem x_assign {x : Str} {p' pos : Pos} {value : Expr} {rest : List Stmt} (q : wpAny (model prog w) A (eval value env) (fun v s₁ => wpAny (model prog w) A (storeName env x v) (fun _ s₂ => wpAny (model prog w) A (execs rest env) QF E s₂) E s₁) E s)
  (hs : swapsWith value (some (.Name x p')) pos.line env = pure false := by rfl) : wpAny (model prog w) A (execs (.Assign [.Name x p'] value pos :: rest) env) QF E s := x_cons (wpAny_Assign_Name q hs)
theorem x_setsub {o i : Expr} {p' pos : Pos} {value : Expr} {rest : List Stmt} (q : wpAny (model prog w) A (eval value env) (fun v s₁ => wpAny (model prog w) A (eval o env) (fun ov s₂ => wpAny (model prog w) A (eval i env) (fun iv s₃ => wpAny (model prog w) A (setItem ov iv v) (fun _ s₄ => wpAny (model prog w) A (execs rest env) QF E s₄) E s₃) E s₂) E s₁) E s)
  (hs : swapsWith value (some (.Subscript o i p')) pos.line env = pure false := by rfl) : wpAny (model prog w) A (execs (.Assign [.Subscript o i p'] value pos :: rest) env) QF E s := x_cons (wpAny_Assign_Subscript q hs)
theorem x_setattr {o : Expr} {x : Str} {p' pos : Pos} {value : Expr} {rest : List Stmt} (q : wpAny (model prog w) A (eval value env) (fun v s₁ => wpAny (model prog w) A (eval o env) (fun ov s₂ => wpAny (model prog w) A (setAttr ov x v) (fun _ s₃ => wpAny (model prog w) A (execs rest env) QF E s₃) E s₂) E s₁) E s)
  (hs : swapsWith value (some (.Attribute o x p')) pos.line env = pure false := by rfl) : wpAny (model prog w) A (execs (.Assign [.Attribute o x p'] value pos :: rest) env) QF E s := x_cons (plainObj_wpAny_Assign_Attribute q hs)
theorem x_ret {e : Expr} {pos : Pos} {rest : List Stmt} (q : wpAny (model prog w) A (eval e env) (fun v s₁ => QF (.ret v) s₁) E s) : wpAny (model prog w) A (execs (.Return (some e) pos :: rest) env) QF E s := x_cons (wpAny_Return_some q)
theorem x_ret0 {pos : Pos} {rest : List Stmt} (q : QF (.ret .none) s) : wpAny (model prog w) A (execs (.Return none pos :: rest) env) QF E s := x_cons (wpAny_Return_none q)
theorem x_nil (q : QF .next s) : wpAny (model prog w) A (execs [] env) QF E s := wpAny_execs_nil q
theorem x_expr {e : Expr} {pos : Pos} {rest : List Stmt} (ok : EnvOk env gt) (q : wpAny (model prog w) A (eval e env) (fun v s₁ => v = .none ∧ wpAny (model prog w) A (execs rest env) QF E s₁) E s)
  (hs : swapsWith e none pos.line env = pure false := by rfl) : wpAny (model prog w) A (execs (.Expr e pos :: rest) env) QF E s :=
 x_cons (wpAny_Expr (wpAny_mono q (fun v s' z => by obtain ⟨rfl, z⟩ := z; exact z) fun _ _ z => z) ok.inter hs)
theorem x_if {test : Expr} {body orelse : List Stmt} {pos : Pos} {rest : List Stmt}
  (q : wpAny (model prog w) A (isTrue test env (eval test env)) (fun b s₂ => if b = true then wpAny (model prog w) A (execs body env) (Nx (model prog w) A env rest QF E) E s₂ else wpAny (model prog w) A (execs orelse env) (Nx (model prog w) A env rest QF E) E s₂) E s) :
  wpAny (model prog w) A (execs (.If test body orelse pos :: rest) env) QF E s := x_cons (wpAny_If q)
theorem ite_b {b : Bool} {P R : Prop} (x : b = true → P) (y : b = false → R) : if b = true then P else R := by
 cases b with
 | true => rw [if_pos rfl]; exact x rfl
 | false => rw [if_neg Bool.false_ne_true]; exact y rfl
theorem ite_t {b : Bool} {P R : Prop} (e : b = true) (x : P) : if b = true then P else R := by rw [if_pos e]; exact x
theorem ite_f {b : Bool} {P R : Prop} (e : b = false) (x : R) : if b = true then P else R := by rw [e, if_neg Bool.false_ne_true]; exact x
theorem r_truth {b : Bool} {Q : Bool → Shared → Prop} (q : Q b s) : wpAny (model prog w) A (truthy (.bool b)) Q E s := wpAny_truthy_bool q
noncomputable def Kp (v : Value) : Prop := keepIn K v = true ∨ ∀ a, v ≠ .ref a
noncomputable def Ck (v : Value) (P : Prop) (s : Shared) : Prop := (keepIn K v = true → K.In s.heap) ∧ P
theorem ck {v : Value} {P : Prop} (f : Fm h₀ F₀ W mu F h) (p : P) : Ck v P ⟨h, g, d, tk, os⟩ := ⟨fun _ => f.kin, p⟩
theorem kp_of {v : Value} (k : Kp v) (x : Heap) (X : keepIn K v = true → K.In x) : ∃ k, (k = Keeper.frame ∨ k = Keeper.machine ∨ k = Keeper.boundFrame) ∧ Looks (model prog w) x (keeperOf v) k := by
 rcases k with k | k
 ·exact keeps_K k x (X k)
 ·refine ⟨.machine, .inr (.inl rfl), ?_⟩
  cases v with
  | ref a => exact absurd rfl (k a)
  | _ => exact Looks.now
theorem callWith_ck {f : Value} {first : List Value} {e : Expr} {rest : List Expr} {pos : Pos} {Q : Value → Shared → Prop} (k : Kp f) (h : wpAny (model prog w) A (spliced (backTo pos (starEach (e :: rest) env))) (fun vs s₁ => Ck f (wpAny (model prog w) A (call f (first ++ vs)) Q E s₁) s₁) E s)
  (he : starEach (e :: rest) env = (false, eval e env) :: starEach rest env) (hplain : (backTo pos (starEach rest env)).any (·.1) = false) :
  wpAny (model prog w) A (callWith pos f first (backTo pos (starEach (e :: rest) env)) []) Q E s := by
 rw [he] at h ⊢
 exact callWith_of (P := fun x => keepIn K f = true → K.In x) (by show ((false || (backTo pos (starEach rest env)).any (·.1)) || false) = false; rw [hplain]; rfl) (kp_of k) (evalArgs_plain h)
theorem callWith_ck0 {f : Value} {first : List Value} {pos : Pos} {Q : Value → Shared → Prop} (k : Kp f) (h : Ck f (wpAny (model prog w) A (call f (first ++ [])) Q E s) s) : wpAny (model prog w) A (callWith pos f first (backTo pos (starEach [] env)) []) Q E s :=
 callWith_of (P := fun x => keepIn K f = true → K.In x) rfl (kp_of k) (PyProof.Rows.evalArgs_nil3 h)
theorem r_call {x : Str} {p pos : Pos} {e : Expr} {rest : List Expr} {f : Value} {Q : Value → Shared → Prop} (ok : EnvOk env gt) (fm : Fm h₀ F₀ W mu F h) (kx : Gk gt x f) (k : Kp f)
  (q : wpAny (model prog w) A (spliced (backTo pos (starEach (e :: rest) env))) (fun vs s₁ => Ck f (wpAny (model prog w) A (call f vs) Q E s₁) s₁) E ⟨h, g, d, tk, os⟩)
  (he : starEach (e :: rest) env = (false, eval e env) :: starEach rest env := by rfl) (hplain : (backTo pos (starEach rest env)).any (·.1) = false := by rfl) :
  wpAny (model prog w) A (eval (.Call (.Name x p) (e :: rest) [] pos) env) Q E ⟨h, g, d, tk, os⟩ := PyProof.Rows.Call_ (r_glo ok fm kx (callWith_ck (first := []) k q he hplain))
theorem r_call0 {x : Str} {p pos : Pos} {f : Value} {Q : Value → Shared → Prop} (ok : EnvOk env gt) (fm : Fm h₀ F₀ W mu F h) (kx : Gk gt x f) (k : Kp f)
  (q : wpAny (model prog w) A (call f []) Q E ⟨h, g, d, tk, os⟩) :
  wpAny (model prog w) A (eval (.Call (.Name x p) [] [] pos) env) Q E ⟨h, g, d, tk, os⟩ := PyProof.Rows.Call_ (r_glo ok fm kx (callWith_ck0 (first := []) k (ck fm q)))
theorem a_nil {pos : Pos} {Q : List Value → Shared → Prop} (q : Q [] s) : wpAny (model prog w) A (spliced (backTo pos (starEach [] env))) Q E s := spliced_nil q
theorem a_cons {e : Expr} {rest : List Expr} {pos : Pos} {Q : List Value → Shared → Prop}
  (q : wpAny (model prog w) A (eval e env) (fun v s₁ => wpAny (model prog w) A (spliced (backTo pos (starEach rest env))) (fun vs s₂ => Q (v :: vs) s₂) E s₁) E s)
  (he : starEach (e :: rest) env = (false, eval e env) :: starEach rest env := by rfl) : wpAny (model prog w) A (spliced (backTo pos (starEach (e :: rest) env))) Q E s := by
 rw [he]; exact spliced_cons q
noncomputable def At (mu : Mu) (F : Fz) (a : Addr) (c : Cell) : Prop := (a, c) ∈ mu ∨ F a = some c
theorem At.f {a : Addr} {c : Cell} (e : F a = some c) : At mu F a c := .inr e
theorem At.m {a : Addr} {c : Cell} (e : (a, c) ∈ mu) : At mu F a c := .inl e
theorem At.has {a : Addr} {c : Cell} (f : Fm h₀ F₀ W mu F h) (x : At mu F a c) : Has h a c := by
 rcases x with x | x
 ·exact (f.mus.has _ x).1
 ·exact f.ext.fz _ _ x
theorem r_sub {value slice : Expr} {pos : Pos} {Q : Value → Shared → Prop} (q : wpAny (model prog w) A (eval value env) (fun o s₁ => wpAny (model prog w) A (eval slice env) (fun i s₂ => wpAny (model prog w) A (subscriptTail value slice o i) Q E s₂) E s₁) E s) :
  wpAny (model prog w) A (eval (.Subscript value slice pos) env) Q E s := PyProof.Rows.Subscript_ q
theorem r_item {value slice : Expr} {l : Addr} {vs : List Value} {k : Int} {u : Tok} {x : Value} {Q : Value → Shared → Prop} (f : Fm h₀ F₀ W mu F h) (hl : At mu F l (lst vs)) (h0 : 0 ≤ k) (hk : k < 2 ^ 63) (hx : vs[k.toNat]? = some x) (q : Q x ⟨h, g, d, tk, os⟩)
  (hs : subscripted slice false (.ref l) (.int k u) = operate [.ref l, .int k u] (getItem (.ref l) (.int k u)) := by with_unfolding_all rfl) : wpAny (model prog w) A (subscriptTail value slice (.ref l) (.int k u)) Q E ⟨h, g, d, tk, os⟩ :=
 PyProof.Rows.tail_any (lst_list (hl.has f)).typeIs slot_list_getitem.lookup (wpAny_getItem_list (lst_list (hl.has f)) h0 hk (by simpa using hx) q) hs
theorem r_itemS {value slice : Expr} {l : Addr} {vs : List Value} {k : Int} {u : Tok} {x : Value} {Q : Value → Shared → Prop} (f : Fm h₀ F₀ W mu F h) (hl : At mu F l (lsi vs)) (h0 : 0 ≤ k) (hk : k < 2 ^ 63) (hx : vs[k.toNat]? = some x) (q : Q x ⟨h, g, d, tk, os⟩)
  (hs : subscripted slice false (.ref l) (.int k u) = operate [.ref l, .int k u] (getItem (.ref l) (.int k u)) := by with_unfolding_all rfl) : wpAny (model prog w) A (subscriptTail value slice (.ref l) (.int k u)) Q E ⟨h, g, d, tk, os⟩ :=
 PyProof.Rows.tail_any (lsi_list (hl.has f)).typeIs slot_list_getitem.lookup (wpAny_getItem_list (lsi_list (hl.has f)) h0 hk (by simpa using hx) q) hs
theorem seq_at {k : Int} {n : Nat} (h0 : 0 ≤ k) (hk : k.toNat < n) : seqIndex? k n = some k.toNat := by
 have e : (if k < 0 then k + (n : Int) else k) = k := if_neg (Int.not_lt.mpr h0)
 unfold seqIndex?
 dsimp only
 rw [e, if_pos (by rw [Bool.and_eq_true]; exact ⟨decide_eq_true h0, decide_eq_true (ix_lt h0 hk)⟩)]
theorem r_itemT {value slice : Expr} {l : Addr} {vs : List Value} {k : Int} {u : Tok} {x : Value} {Q : Value → Shared → Prop} (f : Fm h₀ F₀ W mu F h) (hl : At mu F l (tup vs)) (h0 : 0 ≤ k) (hk : k < 2 ^ 63) (hx : vs[k.toNat]? = some x) (q : Q x ⟨h, g, d, tk, os⟩)
  (hs : subscripted slice false (.ref l) (.int k u) = operate [.ref l, .int k u] (getItem (.ref l) (.int k u)) := by with_unfolding_all rfl) : wpAny (model prog w) A (subscriptTail value slice (.ref l) (.int k u)) Q E ⟨h, g, d, tk, os⟩ := by
 have e : k.toNat < vs.length := (List.getElem?_eq_some_iff.mp hx).1
 exact PyProof.Rows.tail_any (tup_tup (hl.has f)).typeIs slot_tuple_getitem.lookup (PyProof.Rows.getItem_tuple (j := k.toNat) (tup_tup (hl.has f)) (by k_extra "om") hk (seq_at h0 (by simpa using e)) (by simpa using hx) q) hs
theorem r_setitem {l : Addr} {vs : List Value} {k : Int} {u : Tok} {v : Value} {mu' : Mu} {Q : Unit → Shared → Prop} (f : Fm h₀ F₀ W mu F h) (hl : (l, lsi vs) ∈ mu) (h0 : 0 ≤ k) (hk : k < vs.length) (hk' : k < 2 ^ 63) (u' : Up l (lsi (vs.set k.toNat v)) mu mu')
  (q : ∀ h', Fm h₀ F₀ W mu' F h' → Q () ⟨h', g, d, tk, os⟩) : wpAny (model prog w) A (setItem (.ref l) (.int k u) v) Q E ⟨h, g, d, tk, os⟩ := by
 refine wpAny_setItem_list (lsi_list (f.mus.has _ hl).1) h0 hk' (by simpa using hk) (fun h' y s => q h' (f.turn u' (fun b o nb eb => (s.2 b nb).trans eb) ?_))
 obtain ⟨o, e1, e2, n, e3⟩ := y
 exact ⟨o, e1, e2, n, by rw [e3]; simp⟩
theorem r_len {l : Addr} {vs : List Value} {Q : Value → Shared → Prop} (f : Fm h₀ F₀ W mu F h) (hl : At mu F l (lst vs)) (hn : vs.length < 2 ^ 63) (q : ∀ t tk', Q (.int vs.length t) ⟨h, g, d, tk', os⟩) : wpAny (model prog w) A (call (.builtin "len") [.ref l]) Q E ⟨h, g, d, tk, os⟩ :=
 PyProof.Rows.len_list (lst_list (hl.has f)) (by simpa using (by k_extra "om" : (vs.length : Int) < 2 ^ 63)) (by simpa using q _ _)
end
end Pg
end
section
open PySem PySem.W PyProof.Rows PySem.Calls
namespace Pg
theorem refKey_none {es : Array DictEntry} (s : StrKeys es) : es.toList.any (·.refKey) = false := by
 rw [List.any_eq_false]
 intro e he
 obtain ⟨n, t, k⟩ := s e (by simpa using he)
 unfold DictEntry.refKey
 rw [k]; simp
theorem lookIn_of {o : Obj} {es : Array DictEntry} {ep : Nat} (d : o.data = .dict es ep) (s : StrKeys es) (x : Str) : lookIn x o = some (nsFind es x) := by
 unfold lookIn
 rw [d]
 dsimp only
 unfold nsFind findBy
 rw [← Array.find?_toList]
 cases q : es.toList.find? (fun e => e.key.isStr x) with
 | some e => rfl
 | none => rw [refKey_none s]; rfl
theorem len_of_sub {α : Type} [BEq α] [LawfulBEq α] {l k : List α} (nd : l.Nodup) (s : ∀ x ∈ l, x ∈ k) : l.length ≤ k.length := by
 induction l generalizing k with
 | nil => exact Nat.zero_le _
 | cons x l ih =>
  have z := List.nodup_cons.mp nd
  have hx := s x (.head _)
  have := ih (k := k.erase x) z.2 fun y hy => (List.mem_erase_of_ne (fun (e : y = x) => z.1 (e ▸ hy))).mpr (s y (.tail _ hy))
  rw [List.length_erase_of_mem hx] at this
  exact Nat.le_trans (Nat.succ_le_succ this) (Nat.le_of_eq (Nat.sub_add_cancel (List.length_pos_of_mem hx)))
noncomputable def idc (fs : Fs) : Cell := fun o => (fs.map (·.1)).Nodup ∧ ∃ es ep, o.data = .dict es ep ∧ StrKeys es ∧ UniqKeys es ∧ ∀ x, nsFind es x = look fs x
theorem idc_dct {h : Heap} {a : Addr} {fs : Fs} (x : Has h a (idc fs)) : Has h a (dct fs) := by
 obtain ⟨o, e, nd, es, ep, d, s, _, f⟩ := x
 exact ⟨o, e, nd, es, ep, d, s, f⟩
theorem idc_ns1 {h : Heap} {a : Addr} {fs : Fs} (x : Has h a (idc fs)) : h.Ns1 a (look fs) := by
 obtain ⟨o, e, _, es, ep, d, s, u, f⟩ := x
 exact ⟨o, es, ep, e, d, s, u, f⟩
theorem ns1_idc {h : Heap} {a : Addr} {fs : Fs} {m : Str → Option Value} (x : h.Ns1 a m) (nd : (fs.map (·.1)).Nodup) (e : ∀ y, m y = look fs y) : Has h a (idc fs) := by
 obtain ⟨o, es, ep, q, d, s, u, f⟩ := x
 exact ⟨o, q, nd, es, ep, d, s, u, fun y => (f y).trans (e y)⟩
noncomputable def keyN (e : DictEntry) : Str := match e.key with | .str n _ => n | _ => Str.empty
theorem idc_size {es : Array DictEntry} {fs : Fs} (s : StrKeys es) (u : UniqKeys es) (f : ∀ x, nsFind es x = look fs x) : es.size ≤ fs.length := by
 have kn : ∀ e ∈ es.toList, e.key.isStr (keyN e) = true := fun e he => by
  obtain ⟨n, t, k⟩ := s e (by simpa using he)
  unfold keyN; rw [k]; simp [Value.isStr]
 have nd : (es.toList.map keyN).Nodup := by
  have u' : es.toList.Pairwise fun a b => ∀ n, a.key.isStr n = true → b.key.isStr n = true → False := u
  clear f s u
  generalize es.toList = l at kn u'
  induction l with
  | nil => exact List.nodup_nil
  | cons e l ih =>
   have z := List.pairwise_cons.mp u'
   refine List.nodup_cons.mpr ⟨fun q => ?_, ih (fun e he => kn e (.tail _ he)) z.2⟩
   obtain ⟨e', he', q⟩ := List.mem_map.mp q
   exact z.1 e' he' (keyN e) (kn e (.head _)) (q ▸ kn e' (.tail _ he'))
 have sub : ∀ x ∈ es.toList.map keyN, x ∈ fs.map (·.1) := fun x hx => by
  obtain ⟨e, he, rfl⟩ := List.mem_map.mp hx
  have q : nsFind es (keyN e) ≠ none := by
   unfold nsFind findBy
   rw [← Array.find?_toList]
   cases z : es.toList.find? (fun y => y.key.isStr (keyN e)) with
   | some _ => simp
   | none =>
    have := List.find?_eq_none.mp z e he
    rw [kn e he] at this; simp at this
  rw [f] at q
  refine Decidable.byContradiction fun n => q ?_
  unfold look
  have : fs.lookup (keyN e) = none := by
   clear q f he hx nd
   induction fs with
   | nil => rfl
   | cons p r ih =>
    obtain ⟨y, o⟩ := p
    have : (keyN e == y) = false := beq_eq_false_iff_ne.mpr fun q => n (q ▸ .head _)
    rw [List.lookup_cons, this]; exact ih fun q => n (.tail _ q)
  rw [this]; rfl
 have := len_of_sub nd sub
 rw [List.length_map, List.length_map] at this
 simpa using this
structure FldOk (C : Addr) (x : Str) : Prop where
  a : plainGet K C x = true
  b : hasDictIn K C = true
  c : ∃ attr, findIn K (.ref C) x = some attr ∧ noGet K attr = true
structure SetOk (C : Addr) (x : Str) : Prop where
  a : findIn K (.ref C) "__setattr__" = some (some (.builtin "object.__setattr__"))
  b : plainOver K C = true
  c : takerIn K C x = some none
  d : hasDictIn K C = true
structure MthOk (C : Addr) (x : Str) (f : Addr) : Prop where
  a : plainGet K C x = true
  b : findIn K (.ref C) x = some (some (.ref f))
  c : isFn K (.ref f) = true
structure MakeOk (C fI : Addr) : Prop where
  a : makesIn K C = true
  b : findIn K (.ref C) "__init__" = some (some (.ref fI))
  c : typeIn K (.ref fI) = some (.type "function")
section
variable {A : Around} {env : Env} {gt : Gt} {h₀ h : Heap} {F₀ F : Fz} {W : List Addr} {mu : Mu} {ls : Fs} {tk : Nat} {s : Shared} {QF : Flow → Shared → Prop}
theorem raw_get {a : Addr} {o : Obj} (x : Sub F h) (e : F a = some (Raw o)) : h.get? a = some o := by
 obtain ⟨o', z, w⟩ := x a _ e
 rw [z, show o' = o from w]
theorem inst_at {a C da : Addr} {fs : Fs} (f : Fm h₀ F₀ W mu F h) (ha : F a = some (Raw (instObj C da))) (hd : At mu F da (idc fs)) : ∃ od, PySem.W.InstAt h a (instObj C da) C (some od) ∧ ∀ x, lookIn x od = some (look fs x) := by
 obtain ⟨od, e, nd, es, ep, dd, sk, uk, ff⟩ := hd.has f
 exact ⟨od, ⟨raw_get f.ext.fz ha, rfl, rfl, e⟩, fun x => by rw [lookIn_of dd sk, ff]⟩
theorem r_attr {a C da : Addr} {fs : Fs} {x : Str} {v : Value} {b : Bool} {Q : Value → Shared → Prop} (f : Fm h₀ F₀ W mu F h) (ha : F a = some (Raw (instObj C da))) (hd : At mu F da (idc fs)) (ok : FldOk C x) (k : Lk fs x v) (hv : handedIn v = true)
  (q : ∀ tk', Q v ⟨h, g, d, tk', os⟩) : wpAny (model prog w) A (getAttr (.ref a) x b) Q E ⟨h, g, d, tk, os⟩ := by
 obtain ⟨od, I, lo⟩ := inst_at f ha hd
 obtain ⟨attr, h1, h2⟩ := ok.c
 exact get_value (f.kin) I (plainGet_of ok.a).1 (findObj_own ok.b h1 h2 (by rw [lo, k.look (dct_nd (idc_dct (hd.has f)))])) hv (q _)
theorem r_attrE {value : Expr} {x : Str} {pos : Pos} {Q : Value → Shared → Prop} (q : wpAny (model prog w) A (eval value env) (fun o s₁ => wpAny (model prog w) A (getAttr o x true) Q E s₁) E s)
  (he : eval (.Attribute value x pos) env = (do
   let o ← eval value env
   standAt pos.atName
   let r ← holding [o] (getAttr o x true)
   letTemporaryGo value o r
   pure r)) : wpAny (model prog w) A (eval (.Attribute value x pos) env) Q E s := PyProof.Rows.Attribute_any_ q he
theorem look_none {fs : Fs} {ks : List Str} {x : Str} (e : fs.map (·.1) = ks) (n : x ∉ ks) : look fs x = none := by
 unfold look
 have : fs.lookup x = none := by
  subst e
  induction fs with
  | nil => rfl
  | cons p r ih =>
   obtain ⟨y, o⟩ := p
   have : (x == y) = false := beq_eq_false_iff_ne.mpr fun q => n (q ▸ .head _)
   rw [List.lookup_cons, this]; exact ih fun q => n (.tail _ q)
 rw [this]; rfl
theorem gm_inst {a C da fM : Addr} {fs : Fs} {x : Str} {pl : Sem Bool} {Q : Value × List Value → Shared → Prop} (f : Fm h₀ F₀ W mu F h) (ha : F a = some (Raw (instObj C da))) (hd : At mu F da (idc fs)) (ok : MthOk C x fM) (hn : (fs.map (·.1)).contains x = false)
  (q : Q (.ref fM, [.ref a]) ⟨h, g, d, tk, os⟩) : wpAny (model prog w) A (getMethod (.ref a) x pl) Q E ⟨h, g, d, tk, os⟩ := by
 obtain ⟨od, I, lo⟩ := inst_at f ha hd
 have hn' : x ∉ fs.map (·.1) := fun z => by rw [List.contains_iff_mem.mpr z] at hn; cases hn
 exact method_fn (f.kin) I (plainGet_of ok.a).1 (plainGet_of ok.a).2 ok.b (beq_iff_eq.mp ok.c) (by show (lookIn x od).map _ = _; rw [lo, look_none rfl hn']; rfl) q
theorem r_setattr {a C da : Addr} {fs fs' : Fs} {x : Str} {v : Value} {mu' : Mu} {Q : Unit → Shared → Prop} (f : Fm h₀ F₀ W mu F h) (ha : F a = some (Raw (instObj C da))) (hd : (da, idc fs) ∈ mu) (ok : SetOk C x) (k : Sl fs x v fs') (u : Up da (idc fs') mu mu') (hz : fs.length ≤ 1000)
  (q : ∀ h' tk', Fm h₀ F₀ W mu' F h' → Q () ⟨h', g, d, tk', os⟩) : wpAny (model prog w) A (setAttr (.ref a) x v) Q E ⟨h, g, d, tk, os⟩ := by
 obtain ⟨od, I, lo⟩ := inst_at f ha (.inl hd)
 have X := f.kin
 have hx := raw_get f.ext.fz ha
 have hc := (f.mus.has _ hd).1
 refine set_plain X I ok.a (osa_open (s := ⟨h, g, d, tk + 1, os⟩) X I ok.b ok.c fun b => ?_)
 obtain ⟨cd, hcd, hd'⟩ := any_some ok.d
 refine wpAny_bind (wpAny_pure (wpAny_bind (wpAny_bind (wpAny_loadPart hx (wpAny_bind ((looks_clsIn X hcd).here ?_))))))
 rw [hd']
 refine wpAny_pure (a := some da) (wpAny_bind (wpAny_pure (wpAny_bind ?_)))
 refine wpAny_nsSet1 (idc_ns1 hc) (fun h' n ss => ?_)
 have y : Has h' da (idc fs') := ns1_idc n (k.keys ▸ dct_nd (idc_dct hc)) fun y => (k.look (dct_nd (idc_dct hc)) y).symm
 obtain ⟨o', e', nd', es', ep', dd', sk', uk', ff'⟩ := id y
 have sz := idc_size sk' uk' ff'
 have kl : fs'.length = fs.length := by
  have := congrArg List.length k.keys
  rwa [List.length_map, List.length_map] at this
 exact wpAny_bind (wpAny_lookBehind e' (by rw [dd']; exact pastItsLine_dict (by rw [sizeLine_eq]; k_extra "om")) (wpAny_pure (q h' _ (f.turn u (fun b o nb eb => (ss.2 b nb).trans eb) y))))
theorem make {n : Nat} {C fI : Addr} {args : List Value} {ks : List Str} {Q : Value → Shared → Prop} (hR : Room (n + 1) A) (f0 : Fm h₀ F₀ W mu F h) (ok : MakeOk C fI) (hk : ks.Nodup)
  (go : ∀ a da F' h' A', Ext F h [] F' h' → F' a = some (Raw (instObj C da)) → Has h' da (idc (ks.map fun x => (x, none))) → F' da = none → h.get? da = none → Room n A' →
   codeAny (model prog w) A' (.call (.ref fI) ⟨.ref a :: args, []⟩) (Rv fun v s' => v = .none ∧ Q (.ref a) s') ⟨h', g, d, tk, os⟩) :
  codeAny (model prog w) A (.call (.ref C) ⟨args, []⟩) (Rv Q) ⟨h, g, d, tk, os⟩ := by
 have sub := f0.ext.fz
 have X := f0.kin
 have fn : F h.objs.size = none := by
  cases q : F h.objs.size with
  | none => rfl
  | some k => exact absurd (sub _ _ q).lt (Nat.lt_irrefl _)
 have e1 : Ext F h [] F (h.push emptyDict) := Ext.push0 sub
 have e2 : Ext F (h.push emptyDict) [] (F.set (h.push emptyDict).objs.size (Raw (instObj C h.objs.size))) ((h.push emptyDict).push (instObj C h.objs.size)) := Ext.push e1.fz rfl rfl
 rw [Heap.size_push] at e2
 have g0 : ((h.push emptyDict).push (instObj C h.objs.size)).get? h.objs.size = some emptyDict := Heap.get?_push_of_some _ (Heap.get?_push_size _ rfl)
 refine make_core (makes_of X ok.a) (looks_findIn X ok.b) (fun self => bind_fn X self ok.c) (.inl rfl) (codeAny_mono (go (h.objs.size + 1) h.objs.size _ _ _ ⟨fun a o e w => e2.keep a o (e1.keep a o e w) w, e1.le.trans e2.le, e2.fz, fun a c e => ?_⟩ Fz.set_self ⟨emptyDict, g0, ?_, #[], 0, rfl, ?_, List.Pairwise.nil, ?_⟩ ?_ (get_size h) ?_) fun r s z => ?_)
 ·rcases e2.new a c e with q | q
  ·exact .inl q
  ·right
   cases z : h.get? a with
   | none => rfl
   | some o => rw [e1.keep a o z (fun h => nomatch h)] at q; cases q
 ·rw [List.map_map]; exact (List.map_id' ks).symm ▸ hk
 ·intro e he; simp at he
 ·intro x
  unfold look
  have : ∀ l : List Str, ((l.map fun x => ((x, none) : Str × Option Value)).lookup x).join = none := fun l => by
   induction l with
   | nil => rfl
   | cons z r ih =>
    rw [List.map_cons, List.lookup_cons]
    cases (x == z) with
    | true => rfl
    | false => exact ih
  rw [this]; rfl
 ·rw [Fz.set_ne (by show h.objs.size ≠ h.objs.size + 1; exact Nat.ne_of_lt (Nat.lt_succ_self _))]; exact fn
 ·obtain ⟨a, b, c⟩ := hR
  refine ⟨?_, ?_, c⟩
  ·show A.depth + 1 + 3 * n < _; exact x_uk (by decide) a
  ·show A.units + 1 + 40 * n < _; exact x_uk (by decide) b
 ·rcases r with e | (v | _ | _ | _) <;> first | exact z.elim | exact z
noncomputable def Wl (M : Model) (A : Around) (env : Env) (rest : List Stmt) (I : Nat → Shared → Prop) (n : Nat) (QF : Flow → Shared → Prop) (E : Value → Shared → Prop) : Flow → Shared → Prop := fun f s => match f with
  | .next | .cont => ∃ m, m < n ∧ I m s
  | .brk => wpAny M A (execs rest env) QF E s
  | .ret v => QF (.ret v) s
theorem wl_next {rest : List Stmt} {I : Nat → Shared → Prop} {n : Nat} (q : ∃ m, m < n ∧ I m s) : Wl (model prog w) A env rest I n QF E .next s := q
theorem x_while {test : Expr} {body rest : List Stmt} {pos : Pos} (I : Nat → Shared → Prop) (n : Nat) (h0 : I n s)
  (turn : ∀ n s, I n s → wpAny (model prog w) A (isTrue test env (eval test env)) (fun b s₂ => if b = true then wpAny (model prog w) A (execs body env) (Wl (model prog w) A env rest I n QF E) E s₂ else wpAny (model prog w) A (execs rest env) QF E s₂) E s) :
  wpAny (model prog w) A (execs (.While test body [] pos :: rest) env) QF E s := by
 refine x_cons (wpAny_While (codeAny_whileLoop I (fun n s hI => ?_) n h0))
 refine wpAny_mono (turn n s hI) (fun b s₂ h₂ => ?_) fun _ _ z => z.elim
 cases b with
 | false => rw [if_neg (by decide)] at h₂ ⊢; exact wpAny_execs_nil h₂
 | true =>
  rw [if_pos rfl] at h₂ ⊢
  refine wpAny_mono h₂ (fun f s₃ h₃ => ?_) fun _ _ z => z.elim
  cases f <;> exact h₃
end
end Pg
end
section
open PySem PySem.W PyProof.Rows PySem.Calls
namespace Pg
noncomputable def cel (v : Option Value) : Cell := fun o => o.data = .cell v
theorem cel_is {h : Heap} {c : Addr} {v : Option Value} (x : Has h c (cel v)) : h.IsCell c v := x
structure Cl (env : Env) (x : Str) (c : Addr) : Prop where
  kind : env.kindOf x = some .cell ∨ env.kindOf x = some .free
  lies : env.cells.lookup x = some c
noncomputable def itL (l : Addr) (i : Nat) : Cell := fun o => o.cls = .type "list_iterator" ∧ o.data = .fields #[.ref l, .int i 0]
noncomputable def itT (l : Addr) (i : Nat) : Cell := fun o => o.cls = .type "tuple_iterator" ∧ o.data = .fields #[.ref l, .int i 0]
noncomputable def itB (b : Array UInt8) (t : Tok) (i : Nat) : Cell := fun o => o.cls = .type "bytes_iterator" ∧ o.data = .fields #[.bytes b t, .int i 0]
noncomputable def itR (a : Int) (n : Nat) (i : Nat) : Cell := fun o => o = { cls := .type "range_iterator", dict := none, data := .fields #[rawInt (a + (i : Nat) * 1), rawInt ((n : Int) - (i : Nat)), rawInt 1], slots := #[] }
structure Src (prog : Program) (w : World) (A : Around) (F : Fz) (I : Addr) (n : Nat) (P : Nat → Value → Prop) (c : Nat → Cell) : Prop where
  item : ∀ i (s : Shared) (Q : Option Value → Shared → Prop) (E : Value → Shared → Prop), i < n → Sub F s.heap → Has s.heap I (c i) →
    (∀ v h' tk, P i v → Has h' I (c (i + 1)) → (∀ b o, b ≠ I → s.heap.get? b = some o → h'.get? b = some o) → Q (some v) { s with heap := h', toks := tk }) → wpAny (model prog w) A (pyNext (.ref I)) Q E s
  done : ∀ (s : Shared) (Q : Option Value → Shared → Prop) (E : Value → Shared → Prop), Sub F s.heap → Has s.heap I (c n) →
    (∀ h' tk, (∀ b o, b ≠ I → s.heap.get? b = some o → h'.get? b = some o) → Q none { s with heap := h', toks := tk }) → wpAny (model prog w) A (pyNext (.ref I)) Q E s
  self : ∀ (s : Shared) (Q : Value → Shared → Prop) (E : Value → Shared → Prop), Sub F s.heap → Has s.heap I (c 0) → Q (.ref I) s → wpAny (model prog w) A (pyIter (.ref I)) Q E s
theorem Src.mono {prog : Program} {w : World} {A : Around} {F F' : Fz} {I : Addr} {n : Nat} {P : Nat → Value → Prop} {c : Nat → Cell} (S : Src prog w A F I n P c) (l : Le F F') : Src prog w A F' I n P c :=
 ⟨fun i s Q E hi sb => S.item i s Q E hi fun a k e => sb a k (l a k e), fun s Q E sb => S.done s Q E fun a k e => sb a k (l a k e), fun s Q E sb => S.self s Q E fun a k e => sb a k (l a k e)⟩
theorem Src.of {prog : Program} {w : World} {A : Around} {F : Fz} {I : Addr} {n : Nat} {P : Nat → Value → Prop} {c : Nat → Cell} {fp : List Addr} {St : Nat → Heap → Prop} (W : Walks prog w A I fp [I] n P St)
    (to : ∀ i h, Sub F h → Has h I (c i) → St i h) (fr : ∀ i h, St i h → Has h I (c i)) : Src prog w A F I n P c :=
  ⟨fun i s Q E hi sb hc k => W.item i s Q E hi (to i _ sb hc) fun v h' tk p st kp => k v h' tk p (fr _ _ st) fun b o nb e => kp b o (fun z => nb (List.mem_singleton.mp z)) e,
   fun s Q E sb hc k => W.done s Q E (to n _ sb hc) fun h' tk kp => k h' tk fun b o nb e => kp b o (fun z => nb (List.mem_singleton.mp z)) e,
   fun s Q E sb hc k => W.self 0 s Q E (to 0 _ sb hc) k⟩
section
variable {A : Around} {F : Fz} {I : Addr}
theorem Src.list {l : Addr} {vs : List Value} (hh : A.handled = none) (hl : F l = some (lst vs)) (hI : F I = none) : Src prog w A F I vs.length (fun i v => vs[i]? = some v) (itL l) := by
 have ne : l ≠ I := fun q => by subst q; rw [hI] at hl; cases hl
 have := Src.of (F := F) (c := itL l) (Walks.list (prog := prog) (w := w) hh I l ne vs.toArray) (fun i h sb ⟨o, e, k⟩ => ⟨⟨o, e, k⟩, lst_list (sb _ _ hl)⟩) fun i h st => st.1
 simpa using this
theorem Src.tuple {l : Addr} {vs : List Value} (hh : A.handled = none) (hl : F l = some (tup vs)) (hI : F I = none) : Src prog w A F I vs.length (fun i v => vs[i]? = some v) (itT l) := by
 have ne : l ≠ I := fun q => by subst q; rw [hI] at hl; cases hl
 have := Src.of (F := F) (c := itT l) (Walks.tuple (prog := prog) (w := w) hh I l ne vs.toArray) (fun i h sb ⟨o, e, k⟩ => ⟨⟨o, e, k⟩, tup_tup (sb _ _ hl)⟩) fun i h st => st.1
 simpa using this
theorem Src.bytes {b : Array UInt8} {t : Tok} (hh : A.handled = none) : Src prog w A F I b.size (fun i v => ∃ c u, b[i]? = some c ∧ v = .int (c.toNat : Int) u) (itB b t) :=
 Src.of (KBw.walks hh I b t) (fun i h sb x => x) fun i h st => st
theorem Src.range {a : Int} {n : Nat} (hh : A.handled = none) : Src prog w A F I n (fun i v => ∃ t, v = .int (a + i * 1) t) (itR a n) :=
 Src.of (Walks.range hh I a 1 n) (fun i h sb ⟨o, e, k⟩ => by rw [show o = _ from k] at e; exact e) fun i h st => ⟨_, st, rfl⟩
end
section
variable {A : Around} {env : Env} {gt : Gt} {h₀ h : Heap} {F₀ F : Fz} {W : List Addr} {mu : Mu} {ls : Fs} {tk : Nat} {s : Shared} {QF : Flow → Shared → Prop}
theorem r_cel {x : Str} {pos : Pos} {c : Addr} {v : Value} {Q : Value → Shared → Prop} (e : EnvOk env gt) (f : Fm h₀ F₀ W mu F h) (k : Cl env x c) (hc : At mu F c (cel (some v))) (hd : (x == ("__debug__" : Str)) = false) (hn : (x == ("__classdict__" : Str)) = false) (q : Q v ⟨h, g, d, tk, os⟩) :
  wpAny (model prog w) A (eval (.Name x pos) env) Q E ⟨h, g, d, tk, os⟩ := by
 rcases k with ⟨k | k, l⟩
 ·exact wpAny_Name (wpAny_loadName_cell e.kind k l (cel_is (hc.has f)) q) hd
 ·exact wpAny_Name (wpAny_loadName_free e.kind k l (cel_is (hc.has f)) q hn) hd
theorem r_celset {x : Str} {c : Addr} {v : Value} {v₀ : Option Value} {mu' : Mu} {Q : Unit → Shared → Prop} (e : EnvOk env gt) (f : Fm h₀ F₀ W mu F h) (k : env.kindOf x = some .cell ∧ env.cells.lookup x = some c) (hc : (c, cel v₀) ∈ mu) (u : Up c (cel (some v)) mu mu')
  (q : ∀ h', Fm h₀ F₀ W mu' F h' → Q () ⟨h', g, d, tk, os⟩) : wpAny (model prog w) A (storeName env x v) Q E ⟨h, g, d, tk, os⟩ :=
 wpAny_storeName_cell e.kind k.1 k.2 (cel_is (f.mus.has _ hc).1) fun h' y sb => q h' (f.turn u (fun b o nb eb => (sb.2 b nb).trans eb) y)
theorem Fm.lose {a : Addr} {c : Cell} {mu' : Mu} {h' : Heap} (f : Fm h₀ F₀ W mu F h) (u : Rm a c mu mu') (hk : ∀ b o, b ≠ a → h.get? b = some o → h'.get? b = some o) (h0 : h₀.get? a = none) (hW : a ∉ W) : Fm h₀ F₀ W mu' F h' := by
 have z := f.mus.has _ u.mem
 have nd := u.nd f.mus.nd
 refine ⟨⟨fun b o e w => hk b o (fun q => by subst q; rw [h0] at e; cases e) (f.ext.keep b o e w), f.ext.le, fun b k e => ?_, f.ext.new⟩, ⟨fun p hp => ?_, nd.1⟩, fun p hp => f.own p (u.sub p hp), fun b hb => ?_, f.base⟩
 ·obtain ⟨o, e', k'⟩ := f.ext.fz b k e
  exact ⟨o, hk b o (fun q => by subst q; rw [z.2] at e; cases e) e', k'⟩
 ·obtain ⟨⟨o, e', k'⟩, n⟩ := f.mus.has p (u.sub p hp)
  exact ⟨⟨o, hk _ o (fun q => nd.2 (q ▸ mem_adr hp)) e', k'⟩, n⟩
 ·rcases u.adr b (f.tr b hb) with e | e
  ·exact absurd (e ▸ hb) hW
  ·exact e
structure Own (h₀ : Heap) (W : List Addr) (a : Addr) : Prop where
  h0 : h₀.get? a = none
  nw : a ∉ W
theorem Fm.pushN {o : Obj} {b : Addr} {c e : Cell} (f : Fm h₀ F₀ W ((b, e) :: mu) F h) (hc : c o) (hf : o.isFreed = false) : Fm h₀ F₀ W ((b, e) :: (h.objs.size, c) :: mu) F (h.push o) ∧ Own h₀ W h.objs.size := by
 refine ⟨f.pushM hc hf, f.fresh (get_size h), fun q => ?_⟩
 obtain ⟨p, hp, e⟩ := of_mem_adr (f.tr _ q)
 exact absurd (e ▸ (f.mus.has p hp).1.lt) (Nat.lt_irrefl _)
inductive Inv (h₀ : Heap) (F₀ : Fz) (W : List Addr) (env : Env) (I : Addr) (ci : Cell) (g : Array GenState) (d : Drawn) (os : OsState) (F : Fz) (J : Fs → Mu → Fz → Prop) (s : Shared) : Prop
  | mk (ls : Fs) (mu : Mu) (F' : Fz) (h : Heap) (tk : Nat) (e : s = ⟨h, g, d, tk, os⟩) (f : Fm h₀ F₀ W ((env.locals, frm env ls) :: (I, ci) :: mu) F' h) (le : Le F F') (j : J ls mu F') : Inv h₀ F₀ W env I ci g d os F J s
noncomputable def Tn (QF : Flow → Shared → Prop) (I : Shared → Prop) : Flow → Shared → Prop := fun f s => match f with
  | .next | .cont => I s
  | .brk => False
  | .ret v => QF (.ret v) s
theorem tn_next {I : Shared → Prop} (q : I s) : Tn QF I .next s := q
theorem tn_cont {I : Shared → Prop} (q : I s) : Tn QF I .cont s := q
theorem tn_ret {I : Shared → Prop} {v : Value} (q : QF (.ret v) s) : Tn QF I (.ret v) s := q
noncomputable def ForGo (M : Model) (A : Around) (env : Env) (target : Expr) (body rest : List Stmt) (QF : Flow → Shared → Prop) (it : Value) (s : Shared) : Prop :=
  codeAny M A (.forLoop target it body [] env) (fun r s' => match r with | .ok f => Nx M A env rest QF E f s' | .error e => cameBackBy M A env E e s') s
theorem x_for {target iter : Expr} {body rest : List Stmt} {pos : Pos} (q : wpAny (model prog w) A (eval iter env) (fun x s₁ => wpAny (model prog w) A (pyIter x) (fun it s₂ => ForGo (model prog w) A env target body rest QF it s₂) E s₁) E s)
  (hs : ∀ x, foldedSetIterable iter env x = pure x) : wpAny (model prog w) A (execs (.For target iter body [] pos :: rest) env) QF E s := x_cons (wpAny_For q hs)
theorem for_go {target : Expr} {body rest : List Stmt} {I : Addr} {n : Nat} {P : Nat → Value → Prop} {c : Nat → Cell} (J : Nat → Fs → Mu → Fz → Prop) (S : Src prog w A F I n P c) (f : Fm h₀ F₀ W ((env.locals, frm env ls) :: (I, c 0) :: mu) F h) (hI : Own h₀ W I) (j0 : J 0 ls mu F)
  (turn : ∀ i v ls' mu' F' h' tk', i < n → P i v → J i ls' mu' F' → Le F F' → Fm h₀ F₀ W ((env.locals, frm env ls') :: (I, c (i + 1)) :: mu') F' h' →
   Gen (Tn QF (Inv h₀ F₀ W env I (c (i + 1)) g d os F (J (i + 1)))) fun P => wpAny (model prog w) A (assign target env v) (fun _ s₂ => wpAny (model prog w) A (execs body env) P E s₂) E ⟨h', g, d, tk', os⟩)
  (done : ∀ ls' mu' F' h' tk', J n ls' mu' F' → Le F F' → Fm h₀ F₀ W ((env.locals, frm env ls') :: mu') F' h' → wpAny (model prog w) A (execs rest env) QF E ⟨h', g, d, tk', os⟩)
  (ht : ∀ v, letOwnedTupleGo target (.ref I) v = pure ()) : ForGo (model prog w) A env target body rest QF (.ref I) ⟨h, g, d, tk, os⟩ := by
 refine codeAny_forLoop (fun k s => ∃ i, i ≤ n ∧ k = n - i ∧ Inv h₀ F₀ W env I (c i) g d os F (J i) s) ?_ n ⟨0, Nat.zero_le _, rfl, ls, mu, F, h, tk, rfl, f, Le.rfl, j0⟩ ht
 rintro k s ⟨i, hi, rfl, ls', mu', F', h', tk', rfl, f', le, j⟩
 have S' := S.mono le
 have hc := (f'.mus.has (I, c i) (.tail _ (.head _))).1
 rcases Nat.lt_or_ge i n with lt | ge
 ·refine S'.item i _ _ _ lt f'.ext.fz hc fun v h₁ tk₁ hP hc' hk => ?_
  refine wpAny_mono (turn i v ls' mu' F' h₁ tk₁ lt hP j le (f'.turn (.tail .head) hk hc')).of (fun _ s₂ h₂ => wpAny_mono h₂ (fun fl s₃ h₃ => ?_) fun _ _ z => z.elim) fun _ _ z => z.elim
  cases fl with
  | next => exact ⟨n - (i + 1), sb_i lt, i + 1, lt, rfl, h₃⟩
  | cont => exact ⟨n - (i + 1), sb_i lt, i + 1, lt, rfl, h₃⟩
  | brk => exact h₃.elim
  | ret v => exact h₃
 ·have e : i = n := Nat.le_antisymm hi ge
  subst e
  refine S'.done _ _ _ f'.ext.fz hc fun h₁ tk₁ hk => wpAny_execs_nil ?_
  exact done ls' mu' F' h₁ tk₁ j le (f'.lose (.tail .head) hk hI.h0 hI.nw)
theorem for_list {target : Expr} {body rest : List Stmt} {l : Addr} {vs : List Value} (J : Nat → Fs → Mu → Fz → Prop) (hh : A.handled = none) (hl : F l = some (lst vs)) (f : Fm h₀ F₀ W ((env.locals, frm env ls) :: mu) F h) (j0 : J 0 ls mu F)
  (turn : ∀ I i v ls' mu' F' h' tk', i < vs.length → vs[i]? = some v → J i ls' mu' F' → Le F F' → Fm h₀ F₀ W ((env.locals, frm env ls') :: (I, itL l (i + 1)) :: mu') F' h' →
   Gen (Tn QF (Inv h₀ F₀ W env I (itL l (i + 1)) g d os F (J (i + 1)))) fun P => wpAny (model prog w) A (assign target env v) (fun _ s₂ => wpAny (model prog w) A (execs body env) P E s₂) E ⟨h', g, d, tk', os⟩)
  (done : ∀ ls' mu' F' h' tk', J vs.length ls' mu' F' → Le F F' → Fm h₀ F₀ W ((env.locals, frm env ls') :: mu') F' h' → wpAny (model prog w) A (execs rest env) QF E ⟨h', g, d, tk', os⟩)
  (ht : ∀ I v, letOwnedTupleGo target (.ref I) v = pure ()) : wpAny (model prog w) A (pyIter (.ref l)) (fun it s₂ => ForGo (model prog w) A env target body rest QF it s₂) E ⟨h, g, d, tk, os⟩ := by
 refine wpAny_pyIter_list (lst_list (f.ext.fz _ _ hl)) ?_
 obtain ⟨f', o⟩ := f.pushN (c := itL l 0) (o := { cls := .type "list_iterator", data := .fields #[.ref l, .int 0 0] }) ⟨rfl, rfl⟩ rfl
 exact for_go J (Src.list hh hl (f'.mus.has _ (.tail _ (.head _))).2) f' o j0 (turn _) done (ht _)
theorem for_tuple {target : Expr} {body rest : List Stmt} {l : Addr} {vs : List Value} (J : Nat → Fs → Mu → Fz → Prop) (hh : A.handled = none) (hl : F l = some (tup vs)) (f : Fm h₀ F₀ W ((env.locals, frm env ls) :: mu) F h) (j0 : J 0 ls mu F)
  (turn : ∀ I i v ls' mu' F' h' tk', i < vs.length → vs[i]? = some v → J i ls' mu' F' → Le F F' → Fm h₀ F₀ W ((env.locals, frm env ls') :: (I, itT l (i + 1)) :: mu') F' h' →
   Gen (Tn QF (Inv h₀ F₀ W env I (itT l (i + 1)) g d os F (J (i + 1)))) fun P => wpAny (model prog w) A (assign target env v) (fun _ s₂ => wpAny (model prog w) A (execs body env) P E s₂) E ⟨h', g, d, tk', os⟩)
  (done : ∀ ls' mu' F' h' tk', J vs.length ls' mu' F' → Le F F' → Fm h₀ F₀ W ((env.locals, frm env ls') :: mu') F' h' → wpAny (model prog w) A (execs rest env) QF E ⟨h', g, d, tk', os⟩)
  (ht : ∀ I v, letOwnedTupleGo target (.ref I) v = pure ()) : wpAny (model prog w) A (pyIter (.ref l)) (fun it s₂ => ForGo (model prog w) A env target body rest QF it s₂) E ⟨h, g, d, tk, os⟩ := by
 refine wpAny_pyIter_tuple (tup_tup (f.ext.fz _ _ hl)) ?_
 obtain ⟨f', o⟩ := f.pushN (c := itT l 0) (o := { cls := .type "tuple_iterator", data := .fields #[.ref l, .int 0 0] }) ⟨rfl, rfl⟩ rfl
 exact for_go J (Src.tuple hh hl (f'.mus.has _ (.tail _ (.head _))).2) f' o j0 (turn _) done (ht _)
theorem for_bytes {target : Expr} {body rest : List Stmt} {b : Array UInt8} {t : Tok} (J : Nat → Fs → Mu → Fz → Prop) (hh : A.handled = none) (f : Fm h₀ F₀ W ((env.locals, frm env ls) :: mu) F h) (j0 : J 0 ls mu F)
  (turn : ∀ I i c u ls' mu' F' h' tk', i < b.size → b[i]? = some c → J i ls' mu' F' → Le F F' → Fm h₀ F₀ W ((env.locals, frm env ls') :: (I, itB b t (i + 1)) :: mu') F' h' →
   Gen (Tn QF (Inv h₀ F₀ W env I (itB b t (i + 1)) g d os F (J (i + 1)))) fun P => wpAny (model prog w) A (assign target env (.int (c.toNat : Int) u)) (fun _ s₂ => wpAny (model prog w) A (execs body env) P E s₂) E ⟨h', g, d, tk', os⟩)
  (done : ∀ ls' mu' F' h' tk', J b.size ls' mu' F' → Le F F' → Fm h₀ F₀ W ((env.locals, frm env ls') :: mu') F' h' → wpAny (model prog w) A (execs rest env) QF E ⟨h', g, d, tk', os⟩)
  (ht : ∀ I v, letOwnedTupleGo target (.ref I) v = pure ()) : wpAny (model prog w) A (pyIter (.bytes b t)) (fun it s₂ => ForGo (model prog w) A env target body rest QF it s₂) E ⟨h, g, d, tk, os⟩ := by
 refine KBw.pyIter_bytes ?_
 obtain ⟨f', o⟩ := f.pushN (c := itB b t 0) (o := { cls := .type "bytes_iterator", data := .fields #[.bytes b t, .int 0 0] }) ⟨rfl, rfl⟩ rfl
 refine for_go J (Src.bytes hh) f' o j0 (fun i v ls' mu' F' h' tk' hi hP => ?_) done (ht _)
 obtain ⟨c, u, e, rfl⟩ := hP
 exact turn _ i c u ls' mu' F' h' tk' hi e
noncomputable def rng (a b : Int) : Cell := fun o => ∃ t u v, o = { cls := .type "range", dict := none, data := .fields #[.int a t, .int b u, .int 1 v], slots := #[] }
theorem r_range1 {n : Int} {t : Tok} {Q : Value → Shared → Prop} (f : Fm h₀ F₀ W mu F h) (q : ∀ r F' h' tk', Fm h₀ F₀ W mu F' h' → Le F F' → F' r = some (rng 0 n) → Q (.ref r) ⟨h', g, d, tk', os⟩) : wpAny (model prog w) A (call (.type "range") [.int n t]) Q E ⟨h, g, d, tk, os⟩ := by
 refine call_range_1 (q _ _ _ _ (f.pushF (c := rng 0 n) ⟨_, _, _, rfl⟩ rfl) ?_ Fz.set_self)
 refine Fz.le_set ?_
 cases q : F h.objs.size with
 | none => rfl
 | some k => exact absurd (f.ext.fz _ _ q).lt (Nat.lt_irrefl _)
theorem r_range2 {a b : Int} {t u : Tok} {Q : Value → Shared → Prop} (f : Fm h₀ F₀ W mu F h) (q : ∀ r F' h' tk', Fm h₀ F₀ W mu F' h' → Le F F' → F' r = some (rng a b) → Q (.ref r) ⟨h', g, d, tk', os⟩) : wpAny (model prog w) A (call (.type "range") [.int a t, .int b u]) Q E ⟨h, g, d, tk, os⟩ := by
 refine call_range_2 (q _ _ _ _ (f.pushF (c := rng a b) ⟨_, _, _, rfl⟩ rfl) ?_ Fz.set_self)
 refine Fz.le_set ?_
 cases q : F h.objs.size with
 | none => rfl
 | some k => exact absurd (f.ext.fz _ _ q).lt (Nat.lt_irrefl _)
theorem iter_range {r : Addr} {a : Int} {n : Nat} {Q : Value → Shared → Prop} (f : Fm h₀ F₀ W ((env.locals, frm env ls) :: mu) F h) (hr : F r = some (rng a (a + n))) (ha : -(2 ^ 62) ≤ a) (hb : a + n < 2 ^ 62)
  (q : ∀ I h', Fm h₀ F₀ W ((env.locals, frm env ls) :: (I, itR a n 0) :: mu) F h' → Own h₀ W I → Q (.ref I) ⟨h', g, d, tk, os⟩) : wpAny (model prog w) A (pyIter (.ref r)) Q E ⟨h, g, d, tk, os⟩ := by
 obtain ⟨o, e, t, u, v, k⟩ := f.ext.fz _ _ hr
 subst k
 refine wpAny_pyIter_range e (small_one ha (by k_extra "om") (by k_extra "om") hb) ?_
 have sz : Builtin.Range.rangeSize a (a + n) 1 = n := by rw [rangeSize_one]; split <;> k_extra "om"
 obtain ⟨f', o⟩ := f.pushN (c := itR a n 0) (o := { cls := .type "range_iterator", data := .fields #[rawInt a, rawInt (Builtin.Range.rangeSize a (a + n) 1), rawInt 1] }) (by rw [sz]; simp [itR]) rfl
 exact q _ _ f' o
theorem for_range {target : Expr} {body rest : List Stmt} {r : Addr} {a : Int} {n : Nat} (J : Nat → Fs → Mu → Fz → Prop) (hh : A.handled = none) (hr : F r = some (rng a (a + n))) (ha : -(2 ^ 62) ≤ a) (hb : a + n < 2 ^ 62) (f : Fm h₀ F₀ W ((env.locals, frm env ls) :: mu) F h) (j0 : J 0 ls mu F)
  (turn : ∀ I i t ls' mu' F' h' tk', i < n → J i ls' mu' F' → Le F F' → Fm h₀ F₀ W ((env.locals, frm env ls') :: (I, itR a n (i + 1)) :: mu') F' h' →
   Gen (Tn QF (Inv h₀ F₀ W env I (itR a n (i + 1)) g d os F (J (i + 1)))) fun P => wpAny (model prog w) A (assign target env (.int (a + i) t)) (fun _ s₂ => wpAny (model prog w) A (execs body env) P E s₂) E ⟨h', g, d, tk', os⟩)
  (done : ∀ ls' mu' F' h' tk', J n ls' mu' F' → Le F F' → Fm h₀ F₀ W ((env.locals, frm env ls') :: mu') F' h' → wpAny (model prog w) A (execs rest env) QF E ⟨h', g, d, tk', os⟩)
  (ht : ∀ I v, letOwnedTupleGo target (.ref I) v = pure ()) : wpAny (model prog w) A (pyIter (.ref r)) (fun it s₂ => ForGo (model prog w) A env target body rest QF it s₂) E ⟨h, g, d, tk, os⟩ := by
 refine iter_range f hr ha hb fun I h' f' o => ?_
 refine for_go J (Src.range hh) f' o j0 (fun i v ls' mu' F' h' tk' hi hP => ?_) done (ht _)
 obtain ⟨t, rfl⟩ := hP
 rw [Int.mul_one]
 exact turn _ i t ls' mu' F' h' tk' hi
end
end Pg
end
section
open PySem PySem.W PyProof.Rows PySem.Calls
namespace Pg
noncomputable def clos (cells : List (Str × Addr)) : List (Str × NameKind) → List (Str × Addr) → Option (List (Str × Addr))
  | [], acc => some acc
  | (n, k) :: r, acc => if k == .free then match cells.lookup n with | some c => clos cells r ((n, c) :: acc) | none => none else clos cells r acc
theorem closureFor_eq {scope : Scope} {env : Env} {cl : List (Str × Addr)} (e : clos env.cells scope.names [] = some cl) : closureFor scope env = pure cl := by
 unfold closureFor
 suffices q : ∀ (ns : List (Str × NameKind)) (acc : List (Str × Addr)) (f : Str × NameKind → List (Str × Addr) → Sem (ForInStep (List (Str × Addr)))), (∀ n k a, f (n, k) a = (if k == .free then (do let c ← cellOf env n; pure (.yield ((n, c) :: a))) else pure (.yield a))) → clos env.cells ns acc = some cl → forIn ns acc f = pure cl by
  refine (congrArg (· >>= fun s => pure s) (q scope.names [] _ (fun n k a => ?_) e)).trans rfl
  cases h : (k == NameKind.free) <;> simp [h]
 clear e
 intro ns
 induction ns with
 | nil => intro acc f hf e; cases e; rfl
 | cons p r ih =>
  obtain ⟨n, k⟩ := p
  intro acc f hf e
  rw [List.forIn_cons, hf]
  unfold clos at e
  by_cases hk : (k == NameKind.free) = true
  ·rw [if_pos hk] at e ⊢
   cases hc : env.cells.lookup n with
   | none => rw [hc] at e; cases e
   | some c =>
    rw [hc] at e
    unfold cellOf
    rw [hc]
    exact ih _ f hf e
  ·rw [if_neg hk] at e ⊢
   exact ih _ f hf e
theorem lookup_relabel {env : Env} {x : Str} {k₀ : NameKind} (ne : k₀ ≠ .free) {names : List (Str × NameKind)} (h : names.lookup x = some k₀) :
  (names.map fun (n, k) => if (k == NameKind.free && env.scope.kind == .function && env.kindOf n == some .cell) then (n, NameKind.cell) else (n, k)).lookup x = some k₀ := by
 induction names with
 | nil => cases h
 | cons p r ih =>
  obtain ⟨n, k⟩ := p
  rw [List.map_cons]
  cases hx : x == n with
  | true =>
   rw [List.lookup_cons, hx] at h
   cases h
   dsimp only
   rw [if_neg (by rw [beq_eq_false_iff_ne.mpr ne]; exact Bool.false_ne_true), List.lookup_cons, hx]
  | false =>
   rw [List.lookup_cons, hx] at h
   dsimp only
   split <;> (rw [List.lookup_cons, hx]; exact ih h)
theorem lookup_relabel_free {env : Env} {x : Str} {names : List (Str × NameKind)} (h : names.lookup x = some .free) :
  let y := (names.map fun (n, k) => if (k == NameKind.free && env.scope.kind == .function && env.kindOf n == some .cell) then (n, NameKind.cell) else (n, k)).lookup x
  y = some .cell ∨ y = some .free := by
 dsimp only
 induction names with
 | nil => cases h
 | cons p r ih =>
  obtain ⟨n, k⟩ := p
  rw [List.map_cons]
  cases hx : x == n with
  | true =>
   rw [List.lookup_cons, hx] at h
   dsimp only
   split
   ·rw [List.lookup_cons, hx]; exact .inl rfl
   ·rw [List.lookup_cons, hx]; exact .inr h
  | false =>
   rw [List.lookup_cons, hx] at h
   dsimp only
   split <;> (rw [List.lookup_cons, hx]; exact ih h)
theorem cellsFrom_free : ∀ {names : List (Str × NameKind)} {n : Nat} {acc : List (Str × Addr)}, (∀ y ∈ names, y.2 ≠ .cell) → cellsFrom n names acc = acc
 | [], _, _, _ => rfl
 | (x, k) :: r, n, acc, h => by
  unfold cellsFrom
  have : (k == NameKind.cell) = false := beq_eq_false_iff_ne.mpr (h (x, k) (.head _))
  rw [this]; exact cellsFrom_free fun y hy => h y (.tail _ hy)
theorem pushCells_free : ∀ {names : List (Str × NameKind)} {h : Heap}, (∀ y ∈ names, y.2 ≠ .cell) → pushCells h names = h
 | [], _, _ => rfl
 | (x, k) :: r, h, hc => by
  unfold pushCells
  have : (k == NameKind.cell) = false := beq_eq_false_iff_ne.mpr (hc (x, k) (.head _))
  rw [this]; exact pushCells_free fun y hy => hc y (.tail _ hy)
noncomputable def compE (scope : Scope) (cl : List (Str × Addr)) (C : Addr) (env : Env) : Env :=
  { scope := relabel scope env, locals := C, globals := env.globals, cells := cl, qual := env.qual, func := none, code := env.code, frame := env.frame, builtins := env.builtins }
theorem wpAny_compEnv {M : Model} {A : Around} {E : Value → Shared → Prop} {s : Shared} {scope : Scope} {cl : List (Str × Addr)} {env : Env} {Q : Env → Shared → Prop}
  (q : Q { scope := scope, locals := s.heap.objs.size, globals := env.globals, cells := cellsFrom (s.heap.objs.size + 1) scope.names cl, qual := env.qual, func := none, code := env.code, frame := env.frame, builtins := env.builtins }
   { s with heap := pushCells (s.heap.push { cls := .type "dict", data := .dict #[] }) scope.names }) : wpAny M A (newFunctionEnv scope env.globals cl [] env.qual none .none (some env)) Q E s := by
 simp only [newFunctionEnv, Option.isSome_some, if_true]
 refine wpAny_bind (wpAny_alloc ?_)
 refine wpAny_bind (wpAny_layCells _ (fun name kind cells => by cases hkc : kind == NameKind.cell <;> simp [hkc]) _ _ _ _ ?_)
 rw [show ({ s with heap := s.heap.push { cls := .type "dict", data := .dict #[] } } : Shared).heap.objs.size = s.heap.objs.size + 1 from Heap.size_push ..]
 exact wpAny_bind (wpAny_pure (wpAny_pure q))
section
variable {A : Around} {env : Env} {gt gt' : Gt} {h₀ h : Heap} {F₀ F : Fz} {W : List Addr} {mu : Mu} {ls : Fs} {tk : Nat} {s : Shared} {QF : Flow → Shared → Prop}
noncomputable def CompGo (M : Model) (A : Around) (E : Value → Shared → Prop) (env : Env) (e : Expr) (scope : Scope) (cl : List (Str × Addr)) (use : Option (Value → Sem Unit)) (Q : Value → Shared → Prop) (it : Value) (s : Shared) : Prop :=
  wpAny M A (newList []) (fun acc s₃ => wpAny M A (newFunctionEnv scope env.globals cl [] env.qual none .none (some env)) (fun cenv s₄ =>
    codeAny M A (.compStart e 0 it acc { cenv with scope := relabel scope env }) (compPost M A E use Q acc cenv.locals) s₄) E s₃) E s
theorem r_comp {elt target iter : Expr} {ifs : List Expr} {rest : List Comprehension} {scope : Scope} {pos : Pos} {cl : List (Str × Addr)} {Q : Value → Shared → Prop} (hclos : clos env.cells scope.names [] = some cl) (hkind : scope.kind = .function) (hnames : (scope.names.all fun x => x.2 != .local || scope.names.lookup x.1 == some .local) = true) (hs : ∀ x, foldedSetIterable iter env x = pure x)
  (q : wpAny (model prog w) A (eval iter env) (fun x s₁ => wpAny (model prog w) A (pyIter x) (fun it s₂ => CompGo (model prog w) A E env (.ListComp elt (⟨target, iter, ifs, 0⟩ :: rest) scope pos) scope cl none Q it s₂) E s₁) E s) :
  wpAny (model prog w) A (eval (.ListComp elt (⟨target, iter, ifs, 0⟩ :: rest) scope pos) env) Q E s := by
 rw [eval_ListComp]
 exact wpAny_comprehension_free (use := none) rfl hs (closureFor_eq hclos) hkind (fun x hx hl => by
  have := List.all_eq_true.mp hnames x hx
  rw [hl] at this; simpa using this) q
structure CompOk (scope : Scope) (cl : List (Str × Addr)) (env : Env) (cenv : Env) : Prop where
  cells : cenv.cells = cl
  names : cenv.scope = relabel scope env
theorem CompOk.cl {scope : Scope} {cl : List (Str × Addr)} {cenv : Env} {x : Str} {c : Addr} (k : CompOk scope cl env cenv) (h : scope.names.lookup x = some .free ∨ scope.names.lookup x = some .cell) (e : cl.lookup x = some c) : Cl cenv x c := by
 refine ⟨?_, by rw [k.cells]; exact e⟩
 unfold Env.kindOf
 rw [k.names]
 rcases h with h | h
 ·exact lookup_relabel_free h
 ·exact .inl (lookup_relabel (by decide) h)
theorem comp_ok {scope : Scope} {cl : List (Str × Addr)} {C : Addr} (e : EnvOk env gt) (hk : scope.kind = .function) (hg : (gt'.all fun p => scope.names.lookup p.1 == some .globalImplicit && !(p.1 == ("__debug__" : Str))) = true) (hgv : ∀ p ∈ gt', Gv p.1 p.2) : EnvOk (compE scope cl C env) gt' := by
 refine ⟨hk, e.glob, e.bi, fun p hp => ?_⟩
 have := List.all_eq_true.mp hg p hp
 simp only [Bool.and_eq_true, Bool.not_eq_true'] at this
 exact ⟨lookup_relabel (by decide) (beq_iff_eq.mp this.1), this.2, hgv p hp⟩
inductive Cv (h₀ : Heap) (F₀ : Fz) (W : List Addr) (p1 p2 p3 p4 : Addr × Cell) (F : Fz) (J : Mu → Fz → Prop) (s : Shared) : Prop
  | mk (mu : Mu) (F' : Fz) (h : Heap) (tk : Nat) (e : s = ⟨h, g, d, tk, os⟩) (f : Fm h₀ F₀ W (p1 :: p2 :: p3 :: p4 :: mu) F' h) (le : Le F F') (j : J mu F') : Cv h₀ F₀ W p1 p2 p3 p4 F J s
inductive CSt (h₀ : Heap) (F₀ : Fz) (W : List Addr) (C : Addr) (fr : Option Value → Cell) (D I : Addr) (c : Nat → Cell) (p : Addr × Cell) (n : Nat) (F : Fz) (J : Nat → List Value → Mu → Fz → Prop) (k : Nat) (s : Shared) : Prop
  | mk (i : Nat) (hi : i ≤ n) (ek : k = n - i) (vs : List Value) (xo : Option Value) (mu : Mu) (F' : Fz) (h : Heap) (tk : Nat) (e : s = ⟨h, g, d, tk, os⟩) (hl : vs.length = i) (f : Fm h₀ F₀ W ((C, fr xo) :: (D, lst vs) :: (I, c i) :: p :: mu) F' h) (le : Le F F') (j : J i vs mu F') : CSt h₀ F₀ W C fr D I c p n F J k s
theorem comp_core {use : Option (Value → Sem Unit)} {elt iter : Expr} {x : Str} {px : Pos} {scope : Scope} {pos : Pos} {cl : List (Str × Addr)} {I : Addr} {n : Nat} {P : Nat → Value → Prop} {c : Nat → Cell} {Q : Value → Shared → Prop} (J : Nat → List Value → Mu → Fz → Prop)
  (S : Src prog w A F I n P c) (f : Fm h₀ F₀ W ((env.locals, frm env ls) :: (I, c 0) :: mu) F h) (hI : Own h₀ W I) (j0 : J 0 [] mu F) (hn : n ≤ 1000)
  (hcell : (scope.names.all fun y => y.2 != .cell) = true) (hk : scope.kind = .function) (hx : scope.names.lookup x = some .local)
  (turn : ∀ C i v vs mu' F' h' tk', i < n → P i v → vs.length = i → J i vs mu' F' → Le F F' → CompOk scope cl env (compE scope cl C env) →
   (∀ D, Fm h₀ F₀ W (((compE scope cl C env).locals, frm (compE scope cl C env) [(x, some v)]) :: (D, lst vs) :: (I, c (i + 1)) :: (env.locals, frm env ls) :: mu') F' h' →
   wpAny (model prog w) A (eval elt (compE scope cl C env)) (fun y s₃ => Cv h₀ F₀ W ((compE scope cl C env).locals, frm (compE scope cl C env) [(x, some v)]) (D, lst vs) (I, c (i + 1)) (env.locals, frm env ls) F (J (i + 1) (vs ++ [y])) s₃) E ⟨h', g, d, tk', os⟩))
  (done : ∀ C D vs xo mu' F' h' tk', vs.length = n → J n vs mu' F' → Le F F' → Own h₀ W C → Own h₀ W D → Fm h₀ F₀ W ((C, frm (compE scope cl C env) [(x, xo)]) :: (D, lst vs) :: (env.locals, frm env ls) :: mu') F' h' → compPost (model prog w) A E use Q (.ref D) C (.ok .next) ⟨h', g, d, tk', os⟩) :
  CompGo (model prog w) A E env (.ListComp elt [⟨.Name x px, iter, [], 0⟩] scope pos) scope cl use Q (.ref I) ⟨h, g, d, tk, os⟩ := by
 have hcell' : ∀ y ∈ scope.names, y.2 ≠ .cell := fun y hy q => by
  have := List.all_eq_true.mp hcell y hy
  rw [q] at this; simp at this
 refine wpAny_newObj_type (wpAny_compEnv ?_)
 obtain ⟨f1, o1⟩ := f.pushN (c := lst []) (o := { cls := .type "list", data := .seq ([] : List Value).toArray }) ⟨0, rfl⟩ rfl
 generalize hD : h.objs.size = D at *
 generalize hh1 : h.push { cls := .type "list", data := .seq ([] : List Value).toArray } = h1 at *
 dsimp only at *
 rw [cellsFrom_free hcell', pushCells_free hcell']
 have oo : ∀ (y : Heap), y = h1.push { cls := .type "dict", data := .dict #[] } → Fm h₀ F₀ W ((h1.objs.size, frm (compE scope cl h1.objs.size env) [(x, none)]) :: (D, lst []) :: (I, c 0) :: (env.locals, frm env ls) :: mu) F y ∧ Own h₀ W h1.objs.size := by
  rintro y rfl
  obtain ⟨f2, o2⟩ := f1.pushN (c := frm (compE scope cl h1.objs.size env) [(x, none)]) (o := { cls := .type "dict", data := .dict #[] }) ⟨⟨by simp, #[], 0, rfl, fun e he => by simp at he, fun y => by
    unfold look; rw [List.lookup_cons]; cases (y == x) <;> rfl⟩, fun p hp => by
    rcases List.mem_cons.mp hp with rfl | hp
    ·exact lookup_relabel (by decide) hx
    ·cases hp⟩ rfl
  refine ⟨⟨f2.ext, ⟨fun p hp => f2.mus.has p ?_, ?_⟩, fun p hp => f2.own p ?_, fun a ha => ?_, f2.base⟩, o2⟩
  ·simp only [List.mem_cons] at hp ⊢; rcases hp with h | h | h | h | h <;> simp [h]
  ·have := f2.mus.nd
   simp only [adr, List.map_cons, List.nodup_cons, List.mem_cons] at this ⊢
   simp only [not_or] at this ⊢
   exact ⟨⟨this.2.1.1, this.2.1.2.1, fun z => this.1.1 z.symm, this.2.1.2.2⟩, ⟨this.2.2.1.1, fun z => this.1.2.1 z.symm, this.2.2.1.2⟩, ⟨fun z => this.1.2.2.1 z.symm, this.2.2.2.1⟩, this.1.2.2.2, this.2.2.2.2⟩
  ·simp only [List.mem_cons] at hp ⊢; rcases hp with h | h | h | h | h <;> simp [h]
  ·have := f2.tr a ha
   simp only [adr, List.map_cons, List.mem_cons] at this ⊢; rcases this with h | h | h | h | h <;> simp [h]
 obtain ⟨f2, o2⟩ := oo _ rfl
 generalize hC : h1.objs.size = C at *
 generalize h1.push { cls := .type "dict", data := .dict #[] } = h2 at *
 clear oo f1
 have loop : codeAny (model prog w) A (.compLoop (.ListComp elt [⟨.Name x px, iter, [], 0⟩] scope pos) 0 (.ref I) (.ref D) (compE scope cl C env))
   (compPost (model prog w) A E use Q (.ref D) C) ⟨h2, g, d, tk, os⟩ := by
  refine codeAny_compLoop_list (CSt h₀ F₀ W C (fun xo => frm (compE scope cl C env) [(x, xo)]) D I c (env.locals, frm env ls) n F J) ?_ n
   ⟨0, Nat.zero_le _, rfl, [], none, mu, F, h2, tk, rfl, rfl, f2, Le.rfl, j0⟩
  rintro k s ⟨i, hi, rfl, vs, xo, mu', F', h', tk', rfl, hl, f', le, j⟩
  have S' := S.mono le
  have hc := (f'.mus.has (I, c i) (.tail _ (.tail _ (.head _)))).1
  rcases Nat.lt_or_ge i n with lt | ge
  ·refine S'.item i _ _ _ lt f'.ext.fz hc fun v h₁ tk₁ hP hc' hk' => ?_
   have f₁ := f'.turn (.tail (.tail .head)) hk' hc'
   have z := (f₁.mus.has _ (.head _)).1
   refine wpAny_assign_Name (wpAny_storeName_local (frm_kind z (x, xo) (.head _)) (dct_ns (frm_dct z)) (fun h₂ nn ss => ?_) (by rw [show (compE scope cl C env).scope.kind = .function from hk]; rfl))
   have f₂ : Fm h₀ F₀ W (((compE scope cl C env).locals, frm (compE scope cl C env) [(x, some v)]) :: (D, lst vs) :: (I, c (i + 1)) :: (env.locals, frm env ls) :: mu') F' h₂ := by
    refine f₁.turn .head (fun b o nb eb => (ss.2 b nb).trans eb) ?_
    obtain ⟨o, e1, e2⟩ := ns_dct (fs := [(x, some v)]) nn (by simp) (fun y => by
     have := (Sl.look (fs := [(x, xo)]) (x := x) (v := v) .head (by simp) y).symm; exact this)
    exact ⟨o, e1, e2, fun p hp => by
     rcases List.mem_cons.mp hp with rfl | hp
     ·exact frm_kind z (x, xo) (.head _)
     ·cases hp⟩
   refine wpAny_mono (turn C i v vs mu' F' h₂ _ lt hP hl j le ⟨rfl, rfl⟩ D f₂) (fun y s₃ h₃ => ?_) fun _ _ z => z.elim
   obtain ⟨mu'', F'', h'', tk'', rfl, f₃, le₃, j₃⟩ := h₃
   have hD := (f₃.mus.has (D, lst vs) (.tail _ (.head _))).1
   obtain ⟨o, eo, m, ho⟩ := id hD
   subst ho
   refine append_at eo (fun h₄ sb e4 => ?_) (by show vs.toArray.size ≤ _; rw [List.size_toArray, sizeLine_eq]; k_extra "om")
   refine ⟨n - (i + 1), by k_extra "om", i + 1, lt, rfl, vs ++ [y], some v, mu'', F'', h₄, tk'', rfl, by simp [hl], ?_, le₃, j₃⟩
   exact f₃.turn (.tail .head) (fun b o nb eb => (sb.2 b nb).trans eb) ⟨_, e4, m + 1, by simp⟩
  ·have e : i = n := Nat.le_antisymm hi ge
   subst e
   refine S'.done _ _ _ f'.ext.fz hc fun h₁ tk₁ hk' => ?_
   have f₁ := f'.lose (.tail (.tail .head)) hk' hI.h0 hI.nw
   exact done C D vs xo mu' F' h₁ tk₁ hl j le o2 o1 f₁
 exact codeAny_compStart_list loop (S.self _ _ _ f2.ext.fz ((f2.mus.has (I, c 0) (.tail _ (.tail _ (.head _)))).1) loop)
theorem comp_go {elt iter : Expr} {x : Str} {px : Pos} {scope : Scope} {pos : Pos} {cl : List (Str × Addr)} {I : Addr} {n : Nat} {P : Nat → Value → Prop} {c : Nat → Cell} {Q : Value → Shared → Prop} (J : Nat → List Value → Mu → Fz → Prop)
  (S : Src prog w A F I n P c) (f : Fm h₀ F₀ W ((env.locals, frm env ls) :: (I, c 0) :: mu) F h) (hI : Own h₀ W I) (j0 : J 0 [] mu F) (hn : n ≤ 1000)
  (hcell : (scope.names.all fun y => y.2 != .cell) = true) (hk : scope.kind = .function) (hx : scope.names.lookup x = some .local)
  (turn : ∀ C i v vs mu' F' h' tk', i < n → P i v → vs.length = i → J i vs mu' F' → Le F F' → CompOk scope cl env (compE scope cl C env) →
   (∀ D, Fm h₀ F₀ W (((compE scope cl C env).locals, frm (compE scope cl C env) [(x, some v)]) :: (D, lst vs) :: (I, c (i + 1)) :: (env.locals, frm env ls) :: mu') F' h' →
   wpAny (model prog w) A (eval elt (compE scope cl C env)) (fun y s₃ => Cv h₀ F₀ W ((compE scope cl C env).locals, frm (compE scope cl C env) [(x, some v)]) (D, lst vs) (I, c (i + 1)) (env.locals, frm env ls) F (J (i + 1) (vs ++ [y])) s₃) E ⟨h', g, d, tk', os⟩))
  (done : ∀ D vs mu' F' F'' h' tk', vs.length = n → J n vs mu' F' → Le F F' → Le F' F'' → F'' D = some (lst vs) → Fm h₀ F₀ W ((env.locals, frm env ls) :: mu') F'' h' → Q (.ref D) ⟨h', g, d, tk', os⟩) :
  CompGo (model prog w) A E env (.ListComp elt [⟨.Name x px, iter, [], 0⟩] scope pos) scope cl none Q (.ref I) ⟨h, g, d, tk, os⟩ := by
 refine comp_core J S f hI j0 hn hcell hk hx turn fun C D vs xo mu' F' h' tk' hl j le oC oD f₁ => ?_
 refine ⟨_, dct_ns (frm_dct (f₁.mus.has _ (.head _)).1), fun h'' sb => ?_⟩
 have f₂ := f₁.lose (h' := h'') .head (fun b o nb eb => (sb.2 b nb).trans eb) oC.h0 oC.nw
 exact done D vs mu' F' _ h'' tk' hl j le (Fz.le_set (f₂.mus.has (D, lst vs) (.head _)).2) Fz.set_self (f₂.freeze .head oD.h0 oD.nw)
theorem comp_goA {elt iter : Expr} {x y : Str} {px py : Pos} {scope : Scope} {pos : Pos} {cl : List (Str × Addr)} {I : Addr} {n : Nat} {P : Nat → Value → Prop} {c : Nat → Cell} {Q : Value → Shared → Prop} (J : Nat → List Value → Mu → Fz → Prop) (e : EnvOk env gt)
  (S : Src prog w A F I n P c) (f : Fm h₀ F₀ W ((env.locals, frm env ls) :: (I, c 0) :: mu) F h) (hI : Own h₀ W I) (j0 : J 0 [] mu F) (hn : n ≤ 1000)
  (hcell : (scope.names.all fun y => y.2 != .cell) = true) (hk : scope.kind = .function) (hx : scope.names.lookup x = some .local)
  (turn : ∀ C i v vs mu' F' h' tk', i < n → P i v → vs.length = i → J i vs mu' F' → Le F F' → CompOk scope cl env (compE scope cl C env) →
   (∀ D, Fm h₀ F₀ W (((compE scope cl C env).locals, frm (compE scope cl C env) [(x, some v)]) :: (D, lst vs) :: (I, c (i + 1)) :: (env.locals, frm env ls) :: mu') F' h' →
   wpAny (model prog w) A (eval elt (compE scope cl C env)) (fun y s₃ => Cv h₀ F₀ W ((compE scope cl C env).locals, frm (compE scope cl C env) [(x, some v)]) (D, lst vs) (I, c (i + 1)) (env.locals, frm env ls) F (J (i + 1) (vs ++ [y])) s₃) E ⟨h', g, d, tk', os⟩))
  (done : ∀ D vs mu' F' F'' h' tk', vs.length = n → J n vs mu' F' → Le F F' → Le F' F'' → F'' D = some (lst vs) → (∀ ls', Sl ls y (.ref D) ls' → Fm h₀ F₀ W ((env.locals, frm env ls') :: mu') F'' h' → Q .none ⟨h', g, d, tk', os⟩))
  (hy : ∀ v, ∃ ls', Sl ls y v ls') :
  CompGo (model prog w) A E env (.ListComp elt [⟨.Name x px, iter, [], 0⟩] scope pos) scope cl (some (assign (.Name y py) env)) Q (.ref I) ⟨h, g, d, tk, os⟩ := by
 refine comp_core J S f hI j0 hn hcell hk hx turn fun C D vs xo mu' F' h' tk' hl j le oC oD f₁ => ?_
 have f₂ := f₁.freeze (.tail .head) oD.h0 oD.nw
 obtain ⟨ls', hs⟩ := hy (.ref D)
 refine wpAny_assign_Name (r_store e f₂.swap hs fun h₂ tk₂ f₃ => ?_)
 have f₄ := f₃.swap
 refine ⟨_, dct_ns (frm_dct (f₄.mus.has _ (.head _)).1), fun h'' sb => ?_⟩
 have f₅ := f₄.lose (h' := h'') .head (fun b o nb eb => (sb.2 b nb).trans eb) oC.h0 oC.nw
 exact done D vs mu' F' _ h'' tk₂ hl j le (Fz.le_set (f₁.mus.has (D, lst vs) (.tail _ (.head _))).2) Fz.set_self ls' hs f₅
theorem x_acomp {elt target iter : Expr} {ifs : List Expr} {crest : List Comprehension} {scope : Scope} {pos : Pos} {cl : List (Str × Addr)} {y : Str} {py spos : Pos} {rest : List Stmt} (e : EnvOk env gt) (f : Fm h₀ F₀ W ((env.locals, frm env ls) :: mu) F h) (hy : ∃ o, (y, o) ∈ ls)
  (hline : py.line = pos.line) (hno : (scope.names.any fun p => p.1 == y && (p.2 == .local || p.2 == .cell)) = false)
  (hclos : clos env.cells scope.names [] = some cl) (hkind : scope.kind = .function) (hnames : (scope.names.all fun x => x.2 != .local || scope.names.lookup x.1 == some .local) = true) (hs : ∀ x, foldedSetIterable iter env x = pure x)
  (q : wpAny (model prog w) A (eval iter env) (fun x s₁ => wpAny (model prog w) A (pyIter x) (fun it s₂ => CompGo (model prog w) A E env (.ListComp elt (⟨target, iter, ifs, 0⟩ :: crest) scope pos) scope cl (some (assign (.Name y py) env)) (fun _ s' => wpAny (model prog w) A (execs rest env) QF E s') it s₂) E s₁) E ⟨h, g, d, tk, os⟩) :
  wpAny (model prog w) A (execs (.Assign [.Name y py] (.ListComp elt (⟨target, iter, ifs, 0⟩ :: crest) scope pos) spos :: rest) env) QF E ⟨h, g, d, tk, os⟩ := by
 refine x_cons ?_
 have hsw : swapsWith (.ListComp elt (⟨target, iter, ifs, 0⟩ :: crest) scope pos) (some (.Name y py)) spos.line env = pure true := by
  have h1 : env.kindOf y = some .local := by obtain ⟨o, h⟩ := hy; exact frm_kind (f.mus.has _ (.head _)).1 _ h
  have h2 : env.blockKind = .function := by unfold Env.blockKind; rw [e.kind]; rfl
  show (pure (env.blockKind == .function && env.kindOf y == some .local && py.line == pos.line && !(scope.names.any fun (n, k) => n == y && (k == .local || k == .cell))) : Sem Bool) = pure true
  rw [h1, h2, hline, hno]
  simp
 rw [exec_Assign_Name_used _ _ _ _ hsw]
 refine wpAny_bind (wpAny_standAt (wpAny_bind ?_))
 show wpAny _ A (do let _ ← comprehension (.ListComp elt (⟨target, iter, ifs, 0⟩ :: crest) scope pos) scope env _ (newList []) false (eval iter env) (some (assign (.Name y py) env))) _ _ _
 exact wpAny_bind (wpAny_mono (wpAny_comprehension_free (use := some (assign (.Name y py) env)) rfl hs (closureFor_eq hclos) hkind (fun x hx hl => by
  have := List.all_eq_true.mp hnames x hx
  rw [hl] at this; simpa using this) q) (fun _ s' hq => wpAny_pure (wpAny_pure hq)) fun _ _ e => e)
end
end Pg
end
section
open PySem PySem.W PyProof.Rows PySem.Calls
namespace Pg
noncomputable def dic {prog : Program} {w : World} {K : Type} [DecidableEq K] (knd : KeyKind prog w K) (kvs : List (K × Value)) : Cell := fun o => o.IsDictOf knd kvs
theorem dic_of {prog : Program} {w : World} {K : Type} [DecidableEq K] {knd : KeyKind prog w K} {kvs : List (K × Value)} {h : Heap} {a : Addr} (x : Has h a (dic knd kvs)) : h.DictOf knd a kvs := Heap.dictOf_iff.mpr x
class inductive Ld {K : Type} : List (K × Value) → K → Value → Prop
 | head {k : K} {v : Value} {r : List (K × Value)} : Ld ((k, v) :: r) k v
 | tail {p : K × Value} {k : K} {v : Value} {r : List (K × Value)} : Ld r k v → Ld (p :: r) k v
class inductive Sd {K : Type} : List (K × Value) → K → Value → List (K × Value) → Prop
 | head {k : K} {u v : Value} {r : List (K × Value)} : Sd ((k, u) :: r) k v ((k, v) :: r)
 | tail {p : K × Value} {k : K} {v : Value} {r r' : List (K × Value)} : Sd r k v r' → Sd (p :: r) k v (p :: r')
section
variable {K : Type} [DecidableEq K] {kvs kvs' : List (K × Value)} {k : K} {v : Value}
theorem Ld.mem (x : Ld kvs k v) : (k, v) ∈ kvs := by
 induction x with
 | head => exact .head _
 | tail _ ih => exact .tail _ ih
theorem Ld.at (x : Ld kvs k v) (nd : (kvs.map (·.1)).Nodup) : valueAt kvs k = some v := by
 induction x with
 | head => simp [valueAt]
 | @tail p k v r x ih =>
  have z := List.nodup_cons.mp nd
  have ne : p.1 ≠ k := fun e => z.1 (List.mem_map.mpr ⟨_, x.mem, e.symm⟩)
  have := ih z.2
  unfold valueAt at this ⊢
  rw [List.find?_cons_of_neg (by simpa using ne)]
  exact this
theorem Sd.here (x : Sd kvs k v kvs') : ∃ u, (k, u) ∈ kvs := by
 induction x with
 | head => exact ⟨_, .head _⟩
 | tail _ ih => obtain ⟨u, h⟩ := ih; exact ⟨u, .tail _ h⟩
theorem map_other {r : List (K × Value)} (h : ∀ u, (k, u) ∉ r) : r.map (fun kv => if kv.1 = k then (kv.1, v) else kv) = r := by
 induction r with
 | nil => rfl
 | cons p r ih =>
  rw [List.map_cons, ih fun u q => h u (.tail _ q), if_neg]
  intro e
  exact h p.2 (by rw [← e]; exact .head _)
theorem Sd.at (x : Sd kvs k v kvs') (nd : (kvs.map (·.1)).Nodup) : stored kvs k v = kvs' := by
 have hk : kvs.any (fun kv => kv.1 = k) = true := by
  obtain ⟨u, h⟩ := x.here
  exact List.any_eq_true.mpr ⟨_, h, by simp⟩
 unfold stored
 rw [if_pos hk]
 clear hk
 induction x with
 | head =>
  have z := List.nodup_cons.mp nd
  rw [List.map_cons, if_pos rfl, map_other]
  intro u h
  exact z.1 (List.mem_map_of_mem (f := (·.1)) h)
 | @tail p k v r r' x ih =>
  have z := List.nodup_cons.mp nd
  obtain ⟨u, h⟩ := x.here
  have ne : p.1 ≠ k := fun e => z.1 (List.mem_map.mpr ⟨_, h, e.symm⟩)
  rw [List.map_cons, if_neg ne, ih z.2]
end
section
variable {A : Around} {env : Env} {gt : Gt} {h₀ h : Heap} {F₀ F : Fz} {W : List Addr} {mu : Mu} {ls : Fs} {tk : Nat} {s : Shared} {QF : Flow → Shared → Prop}
theorem Fm.none_new (f : Fm h₀ F₀ W mu F h) : F h.objs.size = none := by
 cases q : F h.objs.size with
 | none => rfl
 | some k => exact absurd (f.ext.fz _ _ q).lt (Nat.lt_irrefl _)
theorem Fm.keep {h' : Heap} (f : Fm h₀ F₀ W mu F h) (k : ∀ a o, h.get? a = some o → h'.get? a = some o) : Fm h₀ F₀ W mu F h' :=
 f.call0 ⟨fun a o e _ => k a o e, Le.rfl, fun a c e => let ⟨o, e', z⟩ := f.ext.fz a c e; ⟨o, k a o e', z⟩, fun _ _ e => .inl e⟩
theorem Fm.weak {a : Addr} {c c' : Cell} {mu' : Mu} (f : Fm h₀ F₀ W mu F h) (m : (a, c) ∈ mu) (u : Up a c' mu mu') (i : ∀ o, c o → c' o) : Fm h₀ F₀ W mu' F h :=
 f.turn u (fun _ _ _ e => e) (let ⟨o, e, z⟩ := (f.mus.has _ m).1; ⟨o, e, i o z⟩)
theorem lst_lsi {vs : List Value} {o : Obj} (x : lst vs o) : lsi vs o := by
 obtain ⟨n, e⟩ := x
 exact ⟨by rw [e], n, by rw [e]⟩
noncomputable def MkL (Q : Value → Shared → Prop) (vs : List Value) (s : Shared) : Prop := vs.length ≤ sizeLine ∧ Q (.ref s.heap.objs.size) { s with heap := s.heap.push { cls := .type "list", data := .seq vs.toArray } }
noncomputable def MkT (Q : Value → Shared → Prop) (vs : List Value) (s : Shared) : Prop := vs.length ≤ sizeLine ∧ Q (.ref s.heap.objs.size) { s with heap := s.heap.push { cls := .type "tuple", data := .seq vs.toArray } }
theorem r_list {elts : List Expr} {pos : Pos} {Q : Value → Shared → Prop} (q : wpAny (model prog w) A (spliced (backTo pos (starEach elts env))) (fun vs s₁ => MkL Q vs s₁) E s) : wpAny (model prog w) A (eval (.List elts pos) env) Q E s := wpAny_List_spliced q
theorem r_tuple {elts : List Expr} {k : Nat} {pos : Pos} {Q : Value → Shared → Prop} (q : wpAny (model prog w) A (spliced (backTo pos (starEach elts env))) (fun vs s₁ => MkT Q vs s₁) E s) : wpAny (model prog w) A (eval (.Tuple elts k pos) env) Q E s := wpAny_Tuple q
theorem mk_lF {vs : List Value} {Q : Value → Shared → Prop} (f : Fm h₀ F₀ W mu F h) (hz : vs.length ≤ 1000) (q : ∀ D F' h', Fm h₀ F₀ W mu F' h' → Le F F' → F' D = some (lst vs) → Q (.ref D) ⟨h', g, d, tk, os⟩) : MkL Q vs ⟨h, g, d, tk, os⟩ :=
 ⟨by rw [sizeLine_eq]; k_extra "om", q _ _ _ (f.pushF (c := lst vs) ⟨_, rfl⟩ rfl) (Fz.le_set f.none_new) Fz.set_self⟩
theorem mk_tF {vs : List Value} {Q : Value → Shared → Prop} (f : Fm h₀ F₀ W mu F h) (hz : vs.length ≤ 1000) (q : ∀ D F' h', Fm h₀ F₀ W mu F' h' → Le F F' → F' D = some (tup vs) → Q (.ref D) ⟨h', g, d, tk, os⟩) : MkT Q vs ⟨h, g, d, tk, os⟩ :=
 ⟨by rw [sizeLine_eq]; k_extra "om", q _ _ _ (f.pushF (c := tup vs) ⟨_, rfl⟩ rfl) (Fz.le_set f.none_new) Fz.set_self⟩
theorem mk_lM {vs : List Value} {b : Addr} {c : Cell} {Q : Value → Shared → Prop} (f : Fm h₀ F₀ W ((b, c) :: mu) F h) (hz : vs.length ≤ 1000) (q : ∀ D h', Fm h₀ F₀ W ((b, c) :: (D, lst vs) :: mu) F h' → Own h₀ W D → Q (.ref D) ⟨h', g, d, tk, os⟩) : MkL Q vs ⟨h, g, d, tk, os⟩ := by
 obtain ⟨f', o⟩ := f.pushN (c := lst vs) (o := { cls := .type "list", data := .seq vs.toArray }) ⟨_, rfl⟩ rfl
 exact ⟨by rw [sizeLine_eq]; k_extra "om", q _ _ f' o⟩
theorem gm_append {l : Addr} {vs : List Value} {pl : Sem Bool} {Q : Value × List Value → Shared → Prop} (f : Fm h₀ F₀ W mu F h) (hl : (l, lst vs) ∈ mu) (q : Q (.builtin "list.append", [.ref l]) ⟨h, g, d, tk, os⟩) : wpAny (model prog w) A (getMethod (.ref l) "append" pl) Q E ⟨h, g, d, tk, os⟩ := by
 obtain ⟨o, e, n, k⟩ := (f.mus.has _ hl).1
 exact getMethod_list_append e (by rw [k]) (by rw [k]) q
theorem gm_pop {l : Addr} {vs : List Value} {pl : Sem Bool} {Q : Value × List Value → Shared → Prop} (f : Fm h₀ F₀ W mu F h) (hl : (l, lst vs) ∈ mu) (q : Q (.builtin "list.pop", [.ref l]) ⟨h, g, d, tk, os⟩) : wpAny (model prog w) A (getMethod (.ref l) "pop" pl) Q E ⟨h, g, d, tk, os⟩ := by
 obtain ⟨o, e, n, k⟩ := (f.mus.has _ hl).1
 exact getMethod_builtin ⟨o, e, by rw [k]⟩ PySem.F.plainAttrs_list PySem.F.slot_list_pop PySem.F.type_list_pop (fun a z => by cases z; exact ⟨o, e, by rw [k]⟩) q
theorem r_append {l : Addr} {vs : List Value} {x : Value} {mu' : Mu} {Q : Value → Shared → Prop} (f : Fm h₀ F₀ W mu F h) (hl : (l, lst vs) ∈ mu) (u : Up l (lst (vs ++ [x])) mu mu') (hz : vs.length ≤ 1000) (q : ∀ h', Fm h₀ F₀ W mu' F h' → Q .none ⟨h', g, d, tk, os⟩) :
  wpAny (model prog w) A (call (.builtin "list.append") [.ref l, x]) Q E ⟨h, g, d, tk, os⟩ := by
 obtain ⟨o, e, n, k⟩ := (f.mus.has _ hl).1
 subst k
 exact append_at e (fun h' sb e' => q h' (f.turn u (fun b o nb eb => (sb.2 b nb).trans eb) ⟨_, e', n + 1, by simp⟩)) (by show vs.toArray.size ≤ _; rw [List.size_toArray, sizeLine_eq]; k_extra "om")
theorem r_pop {l : Addr} {vs : List Value} {x : Value} {mu' : Mu} {Q : Value → Shared → Prop} (f : Fm h₀ F₀ W mu F h) (hl : (l, lst (vs ++ [x])) ∈ mu) (u : Up l (lst vs) mu mu') (hz : vs.length ≤ 1000) (q : ∀ h', Fm h₀ F₀ W mu' F h' → Q x ⟨h', g, d, tk, os⟩) :
  wpAny (model prog w) A (call (.builtin "list.pop") [.ref l]) Q E ⟨h, g, d, tk, os⟩ := by
 obtain ⟨o, e, n, k⟩ := (f.mus.has _ hl).1
 subst k
 have hne : (vs ++ [x]).toArray.size ≠ 0 := by simp
 have hy : (vs ++ [x]).toArray[(vs ++ [x]).toArray.size - 1]? = some x := by simp
 refine call_meets PySem.F.slot_list_pop ⟨_, e, rfl⟩ PySem.F.entry_list_pop (PySem.F.args_list_pop_1 _) (PySem.MeetsSeq.list_pop_last l _ n x hy (by rw [sizeLine_eq]; simp; k_extra "om")) ⟨e, ?_⟩
 refine q _ (f.turn u (fun b o nb eb => ((Heap.SameBut.update ..).2 b nb).trans eb) ⟨_, Heap.get?_update_self _ e rfl, ?_⟩)
 have ee : (vs ++ [x]).eraseIdx vs.length = vs := by rw [List.eraseIdx_append_of_length_le (Nat.le_refl _)]; simp
 simp [Obj.mapSeq, ee]
 exact ⟨_, rfl⟩
variable {KT : Type} [DecidableEq KT] {knd : KeyKind prog w KT}
theorem dic_nd {l : Addr} {kvs : List (KT × Value)} (x : Has h l (dic knd kvs)) : (kvs.map (·.1)).Nodup := by
 obtain ⟨_, _, _, _, _, _, _, _, z⟩ := dic_of x
 exact z
theorem r_itemD {value slice : Expr} {l : Addr} {kvs : List (KT × Value)} {k : KT} {key x : Value} {Q : Value → Shared → Prop} (f : Fm h₀ F₀ W mu F h) (hl : At mu F l (dic knd kvs)) (hk : knd.is k key = true) (hx : Ld kvs k x) (q : ∀ tk', Q x ⟨h, g, d, tk', os⟩)
  (hs : subscripted slice false (.ref l) key = operate [.ref l, key] (getItem (.ref l) key)) : wpAny (model prog w) A (subscriptTail value slice (.ref l) key) Q E ⟨h, g, d, tk, os⟩ := by
 have m := dic_of (hl.has f)
 have nd := dic_nd (hl.has f)
 have tI : (⟨h, g, d, tk, os⟩ : Shared).TypeIs (.ref l) "dict" := m.typeIs
 exact PyProof.Rows.tail_any tI slot_dict_getitem.lookup (wpAny_getItem_of hk m.mapOf (hx.at nd) (q _)) hs
theorem r_setD {l : Addr} {kvs kvs' : List (KT × Value)} {k : KT} {key v : Value} {mu' : Mu} {Q : Unit → Shared → Prop} (f : Fm h₀ F₀ W mu F h) (hl : (l, dic knd kvs) ∈ mu) (hk : knd.is k key = true) (hx : Sd kvs k v kvs') (hz : kvs.length ≤ 1000) (u : Up l (dic knd kvs') mu mu')
  (q : ∀ h' tk', Fm h₀ F₀ W mu' F h' → Q () ⟨h', g, d, tk', os⟩) : wpAny (model prog w) A (setItem (.ref l) key v) Q E ⟨h, g, d, tk, os⟩ := by
 have m := dic_of (f.mus.has _ hl).1
 have nd := dic_nd (f.mus.has _ hl).1
 refine wpAny_setItem_pairs hk m (fun h' y sb => q h' _ (f.turn u (fun b o nb eb => (sb.2 b nb).trans eb) ?_)) (by rw [sizeLine_eq]; k_extra "om")
 rw [hx.at nd] at y
 exact Heap.dictOf_iff.mp y
theorem r_setDn {l : Addr} {kvs : List (KT × Value)} {k : KT} {key v : Value} {mu' : Mu} {Q : Unit → Shared → Prop} (f : Fm h₀ F₀ W mu F h) (hl : (l, dic knd kvs) ∈ mu) (hk : knd.is k key = true) (hx : kvs.any (fun kv => kv.1 = k) = false) (hz : kvs.length ≤ 1000) (u : Up l (dic knd (kvs ++ [(k, v)])) mu mu')
  (q : ∀ h' tk', Fm h₀ F₀ W mu' F h' → Q () ⟨h', g, d, tk', os⟩) : wpAny (model prog w) A (setItem (.ref l) key v) Q E ⟨h, g, d, tk, os⟩ := by
 have m := dic_of (f.mus.has _ hl).1
 refine wpAny_setItem_pairs hk m (fun h' y sb => q h' _ (f.turn u (fun b o nb eb => (sb.2 b nb).trans eb) ?_)) (by rw [sizeLine_eq]; k_extra "om")
 unfold stored at y
 rw [hx, if_neg Bool.false_ne_true] at y
 exact Heap.dictOf_iff.mp y
theorem r_inD {l : Addr} {kvs : List (KT × Value)} {k : KT} {key : Value} {Q : Value → Shared → Prop} (f : Fm h₀ F₀ W mu F h) (hl : At mu F l (dic knd kvs)) (hk : knd.is k key = true) (ns : (l == sysModules) = false) (b : Bool) (hb : (valueAt kvs k).isSome = b) (q : ∀ tk', Q (.bool b) ⟨h, g, d, tk', os⟩) :
  wpAny (model prog w) A (compareOp .In key (.ref l)) Q E ⟨h, g, d, tk, os⟩ := wpAny_in_of hk ns (dic_of (hl.has f)).mapOf (by rw [hb]; exact q _)
theorem r_notinD {l : Addr} {kvs : List (KT × Value)} {k : KT} {key : Value} {Q : Value → Shared → Prop} (f : Fm h₀ F₀ W mu F h) (hl : At mu F l (dic knd kvs)) (hk : knd.is k key = true) (ns : (l == sysModules) = false) (b : Bool) (hb : (valueAt kvs k).isSome = b) (q : ∀ tk', Q (.bool (!b)) ⟨h, g, d, tk', os⟩) :
  wpAny (model prog w) A (compareOp .NotIn key (.ref l)) Q E ⟨h, g, d, tk, os⟩ := wpAny_notIn_of hk ns (dic_of (hl.has f)).mapOf (by rw [hb]; exact q _)
theorem Base.glob_lt (B : Base F) (sb : Sub F h) : mainGlobals < h.objs.size := by
 obtain ⟨hb, mg, mb, _, _, n, _, _, k⟩ := B.keep sb
 obtain ⟨o, _, _, e, _⟩ := n
 exact Heap.lt_size (k _ _ e)
theorem not_mods {a : Addr} (l : mainGlobals < a) : (a == sysModules) = false := by
 refine beq_eq_false_iff_ne.mpr fun e => ?_
 subst e
 exact absurd l (by decide)
end
end Pg
end
section
open PySem PySem.W PyProof.Rows PySem.Calls
namespace Pg
noncomputable def isS (x : Str) : Value → Bool
  | .str y _ => y == x
  | _ => false
class inductive Ss : List Value → Prop
  | nil : Ss []
  | cons {x : Str} {t : Tok} {r : List Value} : Ss r → Ss (.str x t :: r)
theorem Ss.of {vs : List Value} (h : Ss vs) : ∀ y ∈ vs, ∃ a t, y = Value.str a t := by
 induction h with
 | nil => intro y hy; cases hy
 | cons _ ih =>
  intro y hy
  rcases List.mem_cons.mp hy with rfl | hy
  ·exact ⟨_, _, rfl⟩
  ·exact ih y hy
class inductive Cr {prog : Program} {w : World} {K : Type} [DecidableEq K] (knd : KeyKind prog w K) : List (Value × Value) → List (K × Value) → Prop
 | nil : Cr knd [] []
 | cons {key v : Value} {k : K} {vs : List (Value × Value)} {kvs : List (K × Value)} (h : knd.is k key = true) (t : Cr knd vs kvs) : Cr knd ((key, v) :: vs) ((k, v) :: kvs)
theorem Cr.carries {prog : Program} {w : World} {K : Type} [DecidableEq K] {knd : KeyKind prog w K} {vs : List (Value × Value)} {kvs : List (K × Value)} (c : Cr knd vs kvs) : Carries knd vs kvs := by
 induction c with
 | nil => trivial
 | cons h _ ih => exact ⟨h, rfl, ih⟩
section
variable {A : Around} {env : Env} {gt : Gt} {h₀ h : Heap} {F₀ F : Fz} {W : List Addr} {mu : Mu} {ls : Fs} {tk : Nat} {s : Shared} {QF : Flow → Shared → Prop}
theorem r_eqs {x y : Str} {t u : Tok} {Q : Value → Shared → Prop} (b : Bool) (hb : (x == y) = b) (q : Q (.bool b) ⟨h, g, d, tk, os⟩) : wpAny (model prog w) A (compareOp .Eq (.str x t) (.str y u)) Q E ⟨h, g, d, tk, os⟩ := PyProof.Rows.eq_str (by rw [hb]; exact q)
theorem r_nes {x y : Str} {t u : Tok} {Q : Value → Shared → Prop} (b : Bool) (hb : (x == y) = b) (q : Q (.bool (!b)) ⟨h, g, d, tk, os⟩) : wpAny (model prog w) A (compareOp .NotEq (.str x t) (.str y u)) Q E ⟨h, g, d, tk, os⟩ := PyProof.Rows.ne_str (by
 have : (x != y) = !b := by rw [← hb]; rfl
 rw [this]; exact q)
theorem eq_isS (x : Str) (t : Tok) {vs : List Value} (hs : Ss vs) : ∀ y, y ∈ vs.toArray → MeetsSeq.EqGives y (.str x t) (isS x y) := fun y hy => by
 obtain ⟨a, u, rfl⟩ := hs.of y (by simpa using hy)
 intro prog w A E s Q hq
 exact SeqAt.EqAt.str_str (A := A) (s := s) a u x t prog w E Q hq
theorem r_inT {x : Str} {t : Tok} {l : Addr} {vs : List Value} {Q : Value → Shared → Prop} (f : Fm h₀ F₀ W mu F h) (hl : At mu F l (tup vs)) (hs : Ss vs) (b : Bool) (hb : vs.any (isS x) = b) (q : Q (.bool b) ⟨h, g, d, tk, os⟩) : wpAny (model prog w) A (compareOp .In (.str x t) (.ref l)) Q E ⟨h, g, d, tk, os⟩ := by
 obtain ⟨o, e, n, k⟩ := hl.has f
 subst k
 exact SeqRoads2.in_tuple (isS x) (eq_isS x t hs) e (by rw [← Array.any_toList]; show Q (.bool (vs.any (isS x))) _; rw [hb]; exact q)
theorem r_isi {x t c : Value} {H : Heap → Prop} {b : Bool} {Q : Value → Shared → Prop} (Z : KitX K x t H) (f : Fm h₀ F₀ W mu F h) (p : H h) (e : kitOne K t c = some b) (hx : x ≠ .builtin "__main__.__loader__#opaque") (q : ∀ tk', Q (.bool b) ⟨h, g, d, tk', os⟩) :
  wpAny (model prog w) A (call (.builtin "isinstance") [x, c]) Q E ⟨h, g, d, tk, os⟩ := kia_one Z (f.kin) p e hx fun tk => q tk
theorem r_isnone {a : Addr} {Q : Value → Shared → Prop} (q : Q (.bool false) s) : wpAny (model prog w) A (compareOp .Is (.ref a) .none) Q E s := wpAny_is_plain rfl q
theorem r_isnone' {Q : Value → Shared → Prop} (q : Q (.bool true) s) : wpAny (model prog w) A (compareOp .Is .none .none) Q E s := wpAny_is_plain rfl q
theorem r_notnone {a : Addr} {Q : Value → Shared → Prop} (q : Q (.bool true) s) : wpAny (model prog w) A (compareOp .IsNot (.ref a) .none) Q E s := wpAny_isNot_plain rfl q
theorem r_notnone' {Q : Value → Shared → Prop} (q : Q (.bool false) s) : wpAny (model prog w) A (compareOp .IsNot .none .none) Q E s := wpAny_isNot_plain rfl q
theorem t_and {x : Expr} {rest : List Expr} {Q : Bool → Shared → Prop} (q : wpAny (model prog w) A (isTrue x env (eval x env)) (fun b s₁ => if b = true then wpAny (model prog w) A (allTrue .And rest env) Q E s₁ else Q false s₁) E s) : wpAny (model prog w) A (allTrue .And (x :: rest) env) Q E s := wpAny_allTrue_And_cons q
theorem t_or {x : Expr} {rest : List Expr} {Q : Bool → Shared → Prop} (q : wpAny (model prog w) A (isTrue x env (eval x env)) (fun b s₁ => if b = true then Q true s₁ else wpAny (model prog w) A (allTrue .Or rest env) Q E s₁) E s) : wpAny (model prog w) A (allTrue .Or (x :: rest) env) Q E s := wpAny_allTrue_Or_cons q
theorem r_if {test body orelse : Expr} {pos : Pos} {Q : Value → Shared → Prop} (q : wpAny (model prog w) A (isTrue test env (eval test env)) (fun b s₁ => if b = true then wpAny (model prog w) A (eval body env) Q E s₁ else wpAny (model prog w) A (eval orelse env) Q E s₁) E s) : wpAny (model prog w) A (eval (.IfExp test body orelse pos) env) Q E s := wpAny_IfExp q
theorem x_unpack {elts : List Expr} {k : Nat} {tpos pos : Pos} {value : Expr} {rest : List Stmt} (q : wpAny (model prog w) A (eval value env) (fun v s₁ => wpAny (model prog w) A (assign (.Tuple elts k tpos) env v) (fun _ s₂ => wpAny (model prog w) A (execs rest env) QF E s₂) E s₁) E s)
  (hs : swapsWithSole [.Tuple elts k tpos] value pos.line env = pure false) (hw : swappedStores [.Tuple elts k tpos] value env = pure none) : wpAny (model prog w) A (execs (.Assign [.Tuple elts k tpos] value pos :: rest) env) QF E s := x_cons (Assign_Tuple q hs hw)
theorem un_2 {x y : Str} {px py : Pos} {k : Nat} {pos : Pos} {t : Addr} {a b : Value} {Q : Unit → Shared → Prop} (hh : A.handled = none) (f : Fm h₀ F₀ W mu F h) (ht : At mu F t (tup [a, b])) (q : ∀ h', Fm h₀ F₀ W mu F h' → wpAny (model prog w) A (storeName env x a) (fun _ s₁ => wpAny (model prog w) A (storeName env y b) (fun _ s₂ => Q () s₂) E s₁) E ⟨h', g, d, tk, os⟩) :
  wpAny (model prog w) A (assign (.Tuple [.Name x px, .Name y py] k pos) env (.ref t)) Q E ⟨h, g, d, tk, os⟩ :=
 assign_Tuple_tuple hh (tup_tup (ht.has f)) rfl rfl fun h' he => assignInOrder_cons (wpAny_assign_Name (wpAny_mono (q h' (f.keep fun a o e => he a o (Nat.ne_of_lt (Heap.lt_size e)) e)) (fun _ s₁ q₁ => assignInOrder_cons (wpAny_assign_Name (wpAny_mono q₁ (fun _ s₂ q₂ => assignInOrder_nil q₂) fun _ _ z => z))) fun _ _ z => z))
theorem un_3 {x y z : Str} {px py pz : Pos} {k : Nat} {pos : Pos} {t : Addr} {a b c : Value} {Q : Unit → Shared → Prop} (hh : A.handled = none) (f : Fm h₀ F₀ W mu F h) (ht : At mu F t (tup [a, b, c])) (q : ∀ h', Fm h₀ F₀ W mu F h' → wpAny (model prog w) A (storeName env x a) (fun _ s₁ => wpAny (model prog w) A (storeName env y b) (fun _ s₂ => wpAny (model prog w) A (storeName env z c) (fun _ s₃ => Q () s₃) E s₂) E s₁) E ⟨h', g, d, tk, os⟩) :
  wpAny (model prog w) A (assign (.Tuple [.Name x px, .Name y py, .Name z pz] k pos) env (.ref t)) Q E ⟨h, g, d, tk, os⟩ :=
 assign_Tuple_tuple hh (tup_tup (ht.has f)) rfl rfl fun h' he => assignInOrder_cons (wpAny_assign_Name (wpAny_mono (q h' (f.keep fun a o e => he a o (Nat.ne_of_lt (Heap.lt_size e)) e)) (fun _ s₁ q₁ => assignInOrder_cons (wpAny_assign_Name (wpAny_mono q₁ (fun _ s₂ q₂ => assignInOrder_cons (wpAny_assign_Name (wpAny_mono q₂ (fun _ s₃ q₃ => assignInOrder_nil q₃) fun _ _ z => z))) fun _ _ z => z))) fun _ _ z => z))
theorem r_max {a b : Int} {t u : Tok} {Q : Value → Shared → Prop} (hh : A.handled = none) (f : Fm h₀ F₀ W mu F h) (q : ∀ v h' tk', Fm h₀ F₀ W mu F h' → Q (.int (max a b) v) ⟨h', g, d, tk', os⟩) : wpAny (model prog w) A (call (.builtin "max") [.int a t, .int b u]) Q E ⟨h, g, d, tk, os⟩ :=
 max_two_ints hh fun h' tk' hk => by
  by_cases c : b > a
  ·rw [if_pos c]; have := q u h' tk' (f.keep hk); rwa [show max a b = b from Int.max_eq_right (Int.le_of_lt c)] at this
  ·rw [if_neg c]; have := q t h' tk' (f.keep hk); rwa [show max a b = a from Int.max_eq_left (Int.not_lt.mp c)] at this
theorem r_pow {a n : Int} {t u : Tok} {Q : Value → Shared → Prop} (h0 : 0 ≤ n) (h1 : n ≤ 1000000) (ha : a.natAbs < 2 ^ 64) (q : ∀ v tk', Q (.int (a ^ n.toNat) v) ⟨h, g, d, tk', os⟩) : wpAny (model prog w) A (binaryOp .Pow (.int a t) (.int n u)) Q E ⟨h, g, d, tk, os⟩ := pow_int_small h0 h1 ha (q _ _)
theorem r_neg {a : Int} {t : Tok} {Q : Value → Shared → Prop} (q : ∀ v tk', Q (.int (-a) v) ⟨h, g, d, tk', os⟩) : wpAny (model prog w) A (unaryOp .USub (.int a t)) Q E ⟨h, g, d, tk, os⟩ := PySem.P.neg_int (q _ _)
theorem r_lenT {l : Addr} {vs : List Value} {Q : Value → Shared → Prop} (f : Fm h₀ F₀ W mu F h) (hl : At mu F l (tup vs)) (hn : vs.length < 2 ^ 63) (q : ∀ t tk', Q (.int vs.length t) ⟨h, g, d, tk', os⟩) : wpAny (model prog w) A (call (.builtin "len") [.ref l]) Q E ⟨h, g, d, tk, os⟩ := by
 exact PyProof.Rows.len_tuple (tup_tup (hl.has f)) (by simp; k_extra "om") (by simpa using q _ _)
theorem r_bytes {l : Addr} {vs : List Value} {ns : List Int} {Q : Value → Shared → Prop} (hh : A.handled = none) (f : Fm h₀ F₀ W mu F h) (hl : At mu F l (lst vs)) (hi : IntsAre vs ns) (hr : ∀ n ∈ ns, 0 ≤ n ∧ n < 256) (hz : ns.length ≤ 1000) (q : ∀ t h' tk', Fm h₀ F₀ W mu F h' → Q (.bytes (byteArr ns) t) ⟨h', g, d, tk', os⟩) :
  wpAny (model prog w) A (call (.type "bytes") [.ref l]) Q E ⟨h, g, d, tk, os⟩ := by
 exact call_bytes_ints (lst_list (hl.has f)) hi hr (by rw [sizeLine_eq, hi.length]; k_extra "om") hh fun h' t k hk => q t h' k (f.keep hk)
theorem r_sum {l : Addr} {vs : List Value} {ns : List Int} {Q : Value → Shared → Prop} (hh : A.handled = none) (f : Fm h₀ F₀ W mu F h) (hl : At mu F l (lst vs)) (hi : IntsAre vs ns) (q : ∀ t h' tk', Fm h₀ F₀ W mu F h' → Q (.int ns.sum t) ⟨h', g, d, tk', os⟩) :
  wpAny (model prog w) A (call (.builtin "sum") [.ref l]) Q E ⟨h, g, d, tk, os⟩ := by
 obtain ⟨xs, hx⟩ := hi.allInts.items
 have hl' : h.IsList l (intItems xs) := hx ▸ lst_list (hl.has f)
 refine sum_intListG hh hl' fun h' tk t' hk => ?_
 have e1 : ns = xs.toList.map (·.1) := by
  rw [← nums_intItems, ← hx]
  exact (show numsOf vs.toArray.toList = ns from hi.numsOf).symm
 have e2 : preSum (numAt xs) xs.size = ns.sum := by
  rw [preSum_eq, List.take_of_length_le (by simp), e1]
 rw [e2]
 exact q _ _ _ (f.keep hk)
theorem r_listF {l : Addr} {vs : List Value} {Q : Value → Shared → Prop} (f : Fm h₀ F₀ W mu F h) (hl : At mu F l (lst vs)) (hz : vs.length ≤ 1000) (q : ∀ D F' h', Fm h₀ F₀ W mu F' h' → Le F F' → F' D = some (lst vs) → Q (.ref D) ⟨h', g, d, tk, os⟩) :
  wpAny (model prog w) A (call (.type "list") [.ref l]) Q E ⟨h, g, d, tk, os⟩ := by
 obtain ⟨o, e, n, k⟩ := hl.has f
 subst k
 refine call_list_seq l (.inl rfl) e rfl rfl (fun h' c' hk hn => ?_) (by rw [sizeLine_eq]; simp; k_extra "om")
 have fn := f.none_new
 have x : Ext F h [] (F.set h.objs.size (lst vs)) h' := ⟨fun a o e _ => hk a o e, Fz.le_set fn, fun a c e => by
  by_cases z : a = h.objs.size
  ·subst z; rw [Fz.set_self] at e; cases e; exact ⟨_, hn, _, rfl⟩
  ·rw [Fz.set_ne z] at e
   obtain ⟨o, e', k⟩ := f.ext.fz a c e
   exact ⟨o, hk _ _ e', k⟩, fun a c e => by
  by_cases z : a = h.objs.size
  ·subst z; exact .inr (get_size h)
  ·rw [Fz.set_ne z] at e; exact .inl e⟩
 exact q _ _ _ (f.call0 x) (Fz.le_set fn) Fz.set_self
variable {KT : Type} [DecidableEq KT] {knd : KeyKind prog w KT}
noncomputable def MkD {prog : Program} {w : World} {KT : Type} [DecidableEq KT] (knd : KeyKind prog w KT) (D : Addr) (Q : Value → Shared → Prop) (vs : List (Value × Value)) (s : Shared) : Prop :=
  ∃ kvs, Carries knd vs kvs ∧ s.heap.DictOf knd D [] ∧ ∀ h', h'.DictOf knd D (merged [] kvs) → Heap.SameBut D s.heap h' → Q (.ref D) { s with heap := h', toks := s.toks + vs.length }
theorem r_dict (knd : KeyKind prog w KT) {b : Addr} {e : Cell} {keys : List (Option Expr)} {values : List Expr} {pos : Pos} {Q : Value → Shared → Prop} (f : Fm h₀ F₀ W ((b, e) :: mu) F h) (hall : keys.all (·.isSome) = true) (hl : keys.length = values.length) (h0 : keys ≠ []) (hlen : keys.length ≤ 15)
  (q : ∀ D h', Fm h₀ F₀ W ((b, e) :: (D, dic knd []) :: mu) F h' → Own h₀ W D → (D == sysModules) = false → wpAny (model prog w) A (evalPairs (pairTrees keys values env pos)) (fun vs s₁ => MkD knd D Q vs s₁) E ⟨h', g, d, tk, os⟩) :
  wpAny (model prog w) A (eval (.Dict keys values pos) env) Q E ⟨h, g, d, tk, os⟩ := by
 refine wpAny_Dict_walk (knd := knd) hall hl h0 hlen ?_
 obtain ⟨o, ho, hd⟩ := Heap.dictOf_iff.mp (Heap.DictOf.new (knd := knd) h)
 rw [Heap.get?_push_size _ rfl] at ho
 obtain ⟨f', oo⟩ := f.pushN (c := dic knd []) (o := { cls := .type "dict", data := .dict #[] }) (by cases ho; exact hd) rfl
 exact q _ _ f' oo (not_mods (f.now.glob_lt f.ext.fz))
theorem d_cons {k v : Expr} {ks : List (Option Expr)} {vs : List Expr} {pos : Pos} {Q : List (Value × Value) → Shared → Prop}
  (q : wpAny (model prog w) A (eval k env) (fun kv s₁ => wpAny (model prog w) A (eval v env) (fun vv s₂ => wpAny (model prog w) A (evalPairs (pairTrees ks vs env pos)) (fun r s₃ => Q ((kv, vv) :: r) s₃) E s₂) E s₁) E s) :
  wpAny (model prog w) A (evalPairs (pairTrees (some k :: ks) (v :: vs) env pos)) Q E s := pairTrees_cons_walk q
theorem d_nil {pos : Pos} {Q : List (Value × Value) → Shared → Prop} (q : Q [] s) : wpAny (model prog w) A (evalPairs (pairTrees [] [] env pos)) Q E s := pairTrees_nil_walk q
theorem mk_d {D : Addr} {vs : List (Value × Value)} {kvs : List (KT × Value)} {mu' : Mu} {Q : Value → Shared → Prop} (f : Fm h₀ F₀ W mu F h) (hm : (D, dic knd []) ∈ mu) (c : Cr knd vs kvs) (nd : (kvs.map (·.1)).Nodup) (u : Up D (dic knd kvs) mu mu') (q : ∀ h' tk', Fm h₀ F₀ W mu' F h' → Q (.ref D) ⟨h', g, d, tk', os⟩) : MkD knd D Q vs ⟨h, g, d, tk, os⟩ :=
 ⟨kvs, c.carries, dic_of (f.mus.has _ hm).1, fun h' x sb => q h' _ (f.turn u (fun b o nb eb => (sb.2 b nb).trans eb) (by rw [merged_nil_of_nodup _ nd] at x; exact Heap.dictOf_iff.mp x))⟩
theorem r_dcopy {b : Addr} {e : Cell} {l : Addr} {kvs : List (KT × Value)} {Q : Value → Shared → Prop} (f : Fm h₀ F₀ W ((b, e) :: mu) F h) (hl : At ((b, e) :: mu) F l (dic knd kvs)) (ns : (l == sysModules) = false) (hz : kvs.length ≤ 1000)
  (q : ∀ D h', Fm h₀ F₀ W ((b, e) :: (D, dic knd kvs) :: mu) F h' → Own h₀ W D → (D == sysModules) = false → Q (.ref D) ⟨h', g, d, tk, os⟩) : wpAny (model prog w) A (call (.type "dict") [.ref l]) Q E ⟨h, g, d, tk, os⟩ := by
 refine kt_call_dict ns (dic_of (hl.has f)) (by rw [sizeLine_eq]; k_extra "om") fun h' x sb => ?_
 obtain ⟨o, ho, hd⟩ := Heap.dictOf_iff.mp (Heap.DictOf.new (knd := knd) h)
 rw [Heap.get?_push_size _ rfl] at ho
 obtain ⟨f', oo⟩ := f.pushN (c := dic knd []) (o := { cls := .type "dict", data := .dict #[] }) (by cases ho; exact hd) rfl
 exact q _ _ (f'.turn (.tail .head) (fun b o nb eb => (sb.2 b nb).trans eb) (Heap.dictOf_iff.mp x)) oo (not_mods (f.now.glob_lt f.ext.fz))
end
end Pg
end
section
namespace Pg
theorem r_pw (p q : Nat) : (10 : Rat) ^ (p + q) = 10 ^ p * 10 ^ q := by
 induction q with
 | zero => rw [Nat.add_zero, Rat.pow_zero, Rat.mul_one]
 | succ q ih => rw [← Nat.add_assoc, Rat.pow_succ, ih, Rat.pow_succ, Rat.mul_assoc]
theorem r_ten (n : Nat) : (10 : Rat) ^ n ≠ 0 := fun h => by
 have : (0 : Rat) < 10 ^ n := Rat.pow_pos (by decide)
 rw [h] at this
 exact absurd this (by decide)
theorem r_cast (n : Nat) : (((10 : Int) ^ n : Int) : Rat) = (10 : Rat) ^ n := by push_cast; rfl
theorem r_can {x y : Rat} {n : Nat} (h : x * 10 ^ n = y * 10 ^ n) : x = y := by
 have := r_ten n
 grind
noncomputable def Dq (p e : Nat) (x : Rat) : Prop := ∃ m : Int, x * 10 ^ p = m ∧ m.natAbs < 2 ^ e
theorem Dq.mono {p e e' : Nat} {x : Rat} (h : Dq p e x) (l : e ≤ e') : Dq p e' x := by
 obtain ⟨m, a, b⟩ := h
 exact ⟨m, a, Nat.lt_of_lt_of_le b (Nat.pow_le_pow_right (by decide) l)⟩
theorem Dq.up (k : Nat) {p e : Nat} {x : Rat} (h : Dq p e x) : Dq (p + k) (e + 4 * k) x := by
 obtain ⟨m, a, b⟩ := h
 refine ⟨m * 10 ^ k, ?_, ?_⟩
 ·rw [r_pw, ← Rat.mul_assoc, a, Rat.intCast_mul, r_cast]
 ·rw [Int.natAbs_mul, Nat.pow_add]
  have : ((10 : Int) ^ k).natAbs = 10 ^ k := by rw [Int.natAbs_pow]; rfl
  rw [this]
  have t : 10 ^ k ≤ 2 ^ (4 * k) := by rw [Nat.pow_mul]; exact Nat.pow_le_pow_left (by decide) k
  exact Nat.mul_lt_mul_of_lt_of_le b t (Nat.pow_pos (by decide))
theorem Dq.to {p e : Nat} {x : Rat} (h : Dq p e x) {q e' : Nat} (hq : p ≤ q) (he : e + 4 * (q - p) ≤ e') : Dq q e' x := by
 have := (h.up (q - p)).mono he
 rwa [show p + (q - p) = q from a_sb (by assumption)] at this
theorem Dq.mul {p e q f : Nat} {x y : Rat} (h : Dq p e x) (k : Dq q f y) : Dq (p + q) (e + f) (x * y) := by
 obtain ⟨m, a, b⟩ := h
 obtain ⟨n, c, d⟩ := k
 refine ⟨m * n, ?_, ?_⟩
 ·rw [r_pw, Rat.intCast_mul, ← a, ← c]; grind
 ·rw [Int.natAbs_mul, Nat.pow_add]
  exact Nat.mul_lt_mul'' b d
theorem Dq.add {p e f : Nat} {x y : Rat} (h : Dq p e x) (k : Dq p f y) : Dq p (max e f + 1) (x + y) := by
 obtain ⟨m, a, b⟩ := h
 obtain ⟨n, c, d⟩ := k
 refine ⟨m + n, ?_, ?_⟩
 ·rw [Rat.intCast_add, ← a, ← c]; grind
 ·have b' := Nat.lt_of_lt_of_le b (Nat.pow_le_pow_right (n := 2) (by decide) (Nat.le_max_left e f))
  have d' := Nat.lt_of_lt_of_le d (Nat.pow_le_pow_right (n := 2) (by decide) (Nat.le_max_right e f))
  exact Nat.lt_of_le_of_lt (Int.natAbs_add_le m n) (by rw [Nat.pow_succ, Nat.mul_two]; exact Nat.add_lt_add b' d')
theorem Dq.neg {p e : Nat} {x : Rat} (h : Dq p e x) : Dq p e (-x) := by
 obtain ⟨m, a, b⟩ := h
 refine ⟨-m, ?_, by rwa [Int.natAbs_neg]⟩
 rw [Rat.intCast_neg, ← a]; grind
theorem Dq.int {m : Int} {e : Nat} (h : m.natAbs < 2 ^ e) : Dq 0 e (m : Rat) := ⟨m, by rw [Rat.pow_zero, Rat.mul_one], h⟩
theorem Dq.zero {p e : Nat} : Dq p e 0 := ⟨0, by rw [Rat.zero_mul]; rfl, Nat.pow_pos (by decide)⟩
noncomputable def Nf (m : Int) (p : Nat) (x : Rat) : Prop := (m : Rat) = x * 10 ^ p ∧ (p = 0 ∨ m % 10 ≠ 0)
theorem Nf.le {m : Int} {p : Nat} {x : Rat} (n : Nf m p x) {q e : Nat} (d : Dq q e x) : p ≤ q ∧ m.natAbs < 2 ^ e := by
 obtain ⟨M, a, b⟩ := d
 obtain ⟨h, k⟩ := n
 rcases Nat.lt_or_ge q p with l | l
 ·exfalso
  have e1 : (m : Rat) = (M : Rat) * 10 ^ (p - q) := by
   rw [h, ← a, Rat.mul_assoc, ← r_pw, show q + (p - q) = p from a_sl l]
  have e2 : m = M * 10 ^ (p - q) := Rat.intCast_inj.mp (by rw [e1, Rat.intCast_mul, r_cast])
  rcases k with k | k
  ·rw [k] at l; exact Nat.not_lt_zero _ l
  ·obtain ⟨j, hj⟩ : ∃ j, p - q = j + 1 := ⟨p - q - 1, (Nat.sub_add_cancel (Nat.sub_pos_of_lt l)).symm⟩
   rw [hj, Int.pow_succ, ← Int.mul_assoc] at e2
   exact k (by rw [e2]; exact Int.mul_emod_left _ _)
 ·refine ⟨l, ?_⟩
  have e1 : (M : Rat) = (m : Rat) * 10 ^ (q - p) := by
   rw [h, ← a, Rat.mul_assoc, ← r_pw, show p + (q - p) = q from a_sb (by assumption)]
  have e2 : M = m * 10 ^ (q - p) := Rat.intCast_inj.mp (by rw [e1, Rat.intCast_mul, r_cast])
  have e3 : M.natAbs = m.natAbs * 10 ^ (q - p) := by
   rw [e2, Int.natAbs_mul, Int.natAbs_pow]; rfl
  have : m.natAbs ≤ M.natAbs := by rw [e3]; exact Nat.le_mul_of_pos_right _ (Nat.pow_pos (by decide))
  exact Nat.lt_of_le_of_lt this b
noncomputable def Sc (X : Int) (x : Rat) : Prop := (X : Rat) = x * 10 ^ 40
theorem Sc.zero : Sc 0 0 := by unfold Sc; rw [Rat.zero_mul]; rfl
theorem Sc.one : Sc (10 ^ 40) 1 := by unfold Sc; rw [r_cast, Rat.one_mul]
theorem Sc.add {X Y : Int} {x y : Rat} (h : Sc X x) (k : Sc Y y) : Sc (X + Y) (x + y) := by unfold Sc at *; rw [Rat.intCast_add, h, k]; grind
theorem Sc.neg {X : Int} {x : Rat} (h : Sc X x) : Sc (-X) (-x) := by unfold Sc at *; rw [Rat.intCast_neg, h]; grind
theorem fdiv_exact {S Z : Int} {k : Nat} (h : S = Z * 10 ^ k) : S.fdiv (10 ^ k) = Z := by
 rw [h]; exact Int.mul_fdiv_cancel _ (Int.ne_of_gt (Int.pow_pos (by decide)))
noncomputable def Sd2 (S : Int) (s : Rat) : Prop := (S : Rat) = s * 10 ^ 80
theorem Sc.mul {X Y : Int} {x y : Rat} (h : Sc X x) (k : Sc Y y) : Sd2 (X * Y) (x * y) := by
 unfold Sc Sd2 at *; rw [Rat.intCast_mul, h, k, show (80 : Nat) = 40 + 40 from rfl, r_pw]; grind
theorem Sd2.add {X Y : Int} {x y : Rat} (h : Sd2 X x) (k : Sd2 Y y) : Sd2 (X + Y) (x + y) := by unfold Sd2 at *; rw [Rat.intCast_add, h, k]; grind
theorem Sd2.zero : Sd2 0 0 := by unfold Sd2; rw [Rat.zero_mul]; rfl
theorem Sd2.div {S : Int} {s : Rat} (h : Sd2 S s) {e : Nat} (d : Dq 40 e s) : Sc (S.fdiv (10 ^ 40)) s := by
 obtain ⟨m, a, _⟩ := d
 have e1 : S = m * 10 ^ 40 := Rat.intCast_inj.mp (by
  unfold Sd2 at h
  rw [h, Rat.intCast_mul, r_cast, ← a, Rat.mul_assoc, ← r_pw])
 rw [fdiv_exact e1]
 exact a.symm
theorem Sc.div {X : Int} {x y : Rat} (h : Sc X x) (k : Nat) (hy : y * 10 ^ k = x) {e : Nat} (d : Dq 40 e y) : Sc (X.fdiv (10 ^ k)) y := by
 obtain ⟨m, a, _⟩ := d
 have e1 : X = m * 10 ^ k := Rat.intCast_inj.mp (by
  unfold Sc at h
  rw [h, Rat.intCast_mul, r_cast, ← a, ← hy]; grind)
 rw [fdiv_exact e1]
 exact a.symm
theorem Nf.same {m : Int} {p : Nat} {x : Rat} {X : Int} (n : Nf m p x) (s : Sc X x) (hp : p ≤ 40) : m * 10 ^ (40 - p) = X := Rat.intCast_inj.mp (by
 unfold Sc at s
 rw [s, Rat.intCast_mul, r_cast, n.1, Rat.mul_assoc, ← r_pw, show p + (40 - p) = 40 from a_sb (by assumption)])
structure M6 where
  a : Rat
  b : Rat
  c : Rat
  d : Rat
  e : Rat
  f : Rat
noncomputable def M6.mul (x y : M6) : M6 := ⟨x.a * y.a + x.b * y.c, x.a * y.b + x.b * y.d, x.c * y.a + x.d * y.c, x.c * y.b + x.d * y.d, x.e * y.a + x.f * y.c + y.e, x.e * y.b + x.f * y.d + y.f⟩
noncomputable def M6.shift (x y : Rat) : M6 := ⟨1, 0, 0, 1, x, y⟩
noncomputable def M6.one : M6 := ⟨1, 0, 0, 1, 0, 0⟩
structure Mq (p q n : Nat) (m : M6) : Prop where
  a : Dq p n m.a
  b : Dq p n m.b
  c : Dq p n m.c
  d : Dq p n m.d
  e : Dq q n m.e
  f : Dq q n m.f
theorem Mq.to {p q n : Nat} {m : M6} (h : Mq p q n m) {p' q' n' : Nat} (hp : p ≤ p') (hq : q ≤ q') (h1 : n + 4 * (p' - p) ≤ n') (h2 : n + 4 * (q' - q) ≤ n') : Mq p' q' n' m :=
 ⟨h.a.to hp h1, h.b.to hp h1, h.c.to hp h1, h.d.to hp h1, h.e.to hq h2, h.f.to hq h2⟩
theorem Mq.mul {p q n p' q' n' P Q N : Nat} {x y : M6} (h : Mq p q n x) (k : Mq p' q' n' y) (h1 : p + p' = P) (h2 : q + p' ≤ Q) (h3 : q' ≤ Q) (h4 : n + n' + 4 * Q + 2 ≤ N) : Mq P Q N (x.mul y) := by
 subst h1
 have s2 : ∀ {u v s t : Rat}, Dq p n u → Dq p' n' v → Dq p n s → Dq p' n' t → Dq (p + p') N (u * v + s * t) := fun hu hv hs ht => ((hu.mul hv).add (hs.mul ht)).mono (mq1 h4)
 have s3 : ∀ {u v s t r : Rat}, Dq q n u → Dq p' n' v → Dq q n s → Dq p' n' t → Dq q' n' r → Dq Q N (u * v + s * t + r) := fun hu hv hs ht hr =>
  (((((hu.mul hv).to h2 (Nat.le_refl _)).add ((hs.mul ht).to h2 (Nat.le_refl _))).add (hr.to h3 (Nat.le_refl _)))).mono (mq2 mqs (Nat.le_trans mqs (Nat.add_le_add_right (Nat.le_add_left n' n) _)) h4)
 exact ⟨s2 h.a k.a h.b k.c, s2 h.a k.b h.b k.d, s2 h.c k.a h.d k.c, s2 h.c k.b h.d k.d, s3 h.e k.a h.f k.c k.e, s3 h.e k.b h.f k.d k.f⟩
end Pg
end
section
open PySem PySem.W PyProof.Rows PySem.Calls
namespace Pg
theorem Room.le {m n : Nat} {A : Around} (l : m ≤ n) (r : Room n A) : Room m A := by
 obtain ⟨a, b, c⟩ := r
 exact ⟨Nat.lt_of_le_of_lt (Nat.add_le_add_left (Nat.mul_le_mul_left 3 l) _) a, Nat.lt_of_le_of_lt (Nat.add_le_add_left (Nat.mul_le_mul_left 40 l) _) b, c⟩
theorem Room.hd {n : Nat} {A : Around} (r : Room n A) : A.handled = none := r.2.2
class inductive Ga : Gt → Prop
 | nil : Ga []
 | cons {x : Str} {v : Value} {r : Gt} : Gv x v → Ga r → Ga ((x, v) :: r)
theorem Ga.all {g : Gt} (a : Ga g) : ∀ p ∈ g, Gv p.1 p.2 := by
 induction a with
 | nil => intro p hp; cases hp
 | cons h _ ih =>
  intro p hp
  rcases List.mem_cons.mp hp with rfl | hp
  ·exact h
  ·exact ih p hp
theorem ex_none {P : Prop} (h : P) : Value.none = .none ∧ P := ⟨rfl, h⟩
class inductive Tk : Mu → Mu → Mu → Mu → Prop
  | nil {mu : Mu} : Tk [] [] mu mu
  | take {a : Addr} {c c' : Cell} {us us' mu mu' : Mu} : Tk us us' mu mu' → Tk ((a, c) :: us) ((a, c') :: us') ((a, c) :: mu) ((a, c') :: mu')
  | skip {p : Addr × Cell} {us us' mu mu' : Mu} : Tk us us' mu mu' → Tk us us' (p :: mu) (p :: mu')
section
variable {us us' mu mu' : Mu} {h₀ h h' : Heap} {F₀ F F' : Fz} {W : List Addr}
theorem Tk.sub (t : Tk us us' mu mu') : ∀ p ∈ us, p ∈ mu := by
 induction t with
 | nil => intro p hp; cases hp
 | take _ ih =>
  intro p hp
  rcases List.mem_cons.mp hp with rfl | hp
  ·exact .head _
  ·exact .tail _ (ih p hp)
 | skip _ ih => exact fun p hp => .tail _ (ih p hp)
theorem Tk.nd (t : Tk us us' mu mu') (nd : (adr mu).Nodup) : (adr us).Nodup := by
 induction t with
 | nil => exact List.nodup_nil
 | take t ih =>
  have z := List.nodup_cons.mp nd
  refine List.nodup_cons.mpr ⟨fun q => ?_, ih z.2⟩
  obtain ⟨p, hp, e⟩ := of_mem_adr q
  exact z.1 (mem_adr' (t.sub p hp) e)
 | skip _ ih => exact ih (List.nodup_cons.mp nd).2
theorem Fm.take (f : Fm h₀ F₀ W mu F h) (t : Tk us us' mu mu') : Mus F h us := ⟨fun p hp => f.mus.has p (t.sub p hp), t.nd f.mus.nd⟩
theorem Up.skip {a : Addr} {c : Cell} {p : Addr × Cell} (u : Up a c mu mu') : Up a c (p :: mu) (p :: mu') := .tail u
theorem Ups.skip {p : Addr × Cell} (u : Ups us mu mu') : Ups us (p :: mu) (p :: mu') := by
 induction u with
 | nil => exact .nil
 | cons u _ ih => exact .cons u.skip ih
theorem Tk.ups (t : Tk us us' mu mu') : Ups us' mu mu' ∧ adr us' = adr us := by
 induction t with
 | nil => exact ⟨.nil, rfl⟩
 | take _ ih => exact ⟨.cons .head ih.1.skip, by show _ :: adr _ = _ :: adr _; rw [ih.2]⟩
 | skip _ ih => exact ⟨ih.1.skip, ih.2⟩
theorem Fm.tk (f : Fm h₀ F₀ W mu F h) (t : Tk us us' mu mu') (x : Ext F h (adr us) F' h') (m : Mus F' h' us') : Fm h₀ F₀ W mu' F' h' := f.call (us := us') (by rw [t.ups.2]; exact x) m t.ups.1
theorem Fm.leave {p : Addr × Cell} (f : Fm h F (adr us) (p :: us') F' h') : Ext F h (adr us) F' h' ∧ Mus F' h' us' := ⟨f.ext, f.mus.tail⟩
theorem Fm.back {p : Addr × Cell} (f : Fm h₀ F₀ W mu F h) (t : Tk us us' mu mu') (r : Fm h F (adr us) (p :: us') F' h') : Fm h₀ F₀ W mu' F' h' ∧ Le F F' := ⟨f.tk t r.ext r.mus.tail, r.ext.le⟩
theorem Fm.back1 {p : Addr × Cell} {a b : Addr} {c e : Cell} (f : Fm h₀ F₀ W ((b, e) :: mu) F h) (t : Tk us us' ((b, e) :: mu) ((b, e) :: mu')) (r : Fm h F (adr us) (p :: (a, c) :: us') F' h') (hn : h.get? a = none) : Fm h₀ F₀ W ((b, e) :: (a, c) :: mu') F' h' ∧ Le F F' ∧ Own h₀ W a := by
 have r' : Mus F' h' us' := r.mus.tail.tail
 have f' := f.tk t r.ext r'
 have hc := r.mus.has (a, c) (.tail _ (.head _))
 have h0 := f.fresh hn
 refine ⟨f'.add hc.1 hc.2 h0 fun q => ?_, r.ext.le, h0, fun q => ?_⟩
 ·have q' : a ∈ adr ((b, e) :: mu) := by
   have : adr ((b, e) :: mu') = adr ((b, e) :: mu) := by rw [← t.ups.1.adr]
   rwa [this] at q
  obtain ⟨p, hp, e⟩ := of_mem_adr q'
  exact absurd hn (e ▸ (f.mus.has p hp).1.ne_none)
 ·obtain ⟨p, hp, e⟩ := of_mem_adr (f.tr a q)
  exact absurd hn (e ▸ (f.mus.has p hp).1.ne_none)
end
section
variable {mu us : Mu} {h₀ h h1 h2 : Heap} {F₀ F F1 F2 : Fz} {W W1 : List Addr} {p : Addr × Cell}
theorem Mus.mk1 {a : Addr} {c : Cell} (x : Has h a c) (n : F a = none) : Mus F h [(a, c)] :=
 ⟨fun p hp => (by rcases List.mem_cons.mp hp with rfl | hp; exact ⟨x, n⟩; cases hp), by simp [adr]⟩
theorem Fm.made {da : Addr} {c : Cell} (f : Fm h₀ F₀ W mu F h) (x : Ext F h [] F1 h1) (h0 : h.get? da = none) (r : Fm h1 F1 [da] [p, (da, c)] F2 h2) : Fm h₀ F₀ W mu (F2.set da c) h2 ∧ Le F (F2.set da c) ∧ Le F1 (F2.set da c) ∧ (F2.set da c) da = some c := by
 have hc := r.mus.has (da, c) (.tail _ (.head _))
 have l1 : Le F1 (F2.set da c) := r.ext.le.trans (Fz.le_set hc.2)
 have l : Le F (F2.set da c) := x.le.trans l1
 refine ⟨f.call0 ⟨fun a o e _ => ?_, l, fun a k e => ?_, fun a k e => ?_⟩, l, l1, Fz.set_self⟩
 ·exact r.ext.keep a o (x.keep a o e (fun z => nomatch z)) fun z => by rw [List.mem_singleton.mp z, h0] at e; cases e
 ·by_cases q : a = da
  ·subst q; rw [Fz.set_self] at e; cases e; exact hc.1
  ·rw [Fz.set_ne q] at e; exact r.ext.fz a k e
 ·by_cases q : a = da
  ·subst q; exact .inr h0
  ·rw [Fz.set_ne q] at e
   rcases r.ext.new a k e with q | q
   ·exact x.new a k q
   ·right
    cases z : h.get? a with
    | none => rfl
    | some o => rw [x.keep a o z (fun z => nomatch z)] at q; cases q
theorem Fm.join (f : Fm h₀ F₀ W mu F h) (x : Ext F h [] F1 h1) (hw : ∀ a ∈ W1, h.get? a = none) (hu : ∀ a ∈ adr us, h.get? a = none) (r : Fm h1 F1 W1 (p :: us) F2 h2) : Fm h₀ F₀ W (mu ++ us) F2 h2 ∧ Le F F2 := by
 have l : Le F F2 := x.le.trans r.ext.le
 have f' : Fm h₀ F₀ W mu F2 h2 := f.call0 ⟨fun a o e _ => r.ext.keep a o (x.keep a o e (fun z => nomatch z)) (fun z => by rw [hw a z] at e; cases e), l, r.ext.fz, fun a k e => by
  rcases r.ext.new a k e with q | q
  ·exact x.new a k q
  ·right
   cases z : h.get? a with
   | none => rfl
   | some o => rw [x.keep a o z (fun z => nomatch z)] at q; cases q⟩
 have m := r.mus.tail
 refine ⟨⟨f'.ext, ⟨fun q hq => ?_, ?_⟩, fun q hq => ?_, fun a ha => ?_, f'.base⟩, l⟩
 ·rcases List.mem_append.mp hq with hq | hq
  ·exact f'.mus.has q hq
  ·exact m.has q hq
 ·show ((mu ++ us).map (·.1)).Nodup
  rw [List.map_append]
  refine List.nodup_append.mpr ⟨f.mus.nd, m.nd, fun a ha b hb e => ?_⟩
  subst e
  obtain ⟨q, hq, e⟩ := of_mem_adr ha
  exact (f.mus.has q hq).1.ne_none (e ▸ hu a hb)
 ·rcases List.mem_append.mp hq with hq | hq
  ·exact f'.own q hq
  ·exact .inr (f.fresh (hu _ (mem_adr hq)))
 ·show a ∈ (mu ++ us).map (·.1)
  rw [List.map_append]
  exact List.mem_append_left _ (f'.tr a ha)
end
section
variable {A : Around} {h₀ h : Heap} {F₀ F : Fz} {W : List Addr} {mu : Mu} {tk : Nat}
theorem r_bytesc {x : List UInt8} {k : Nat} {pos : Pos} {env : Env} {Q : Value → Shared → Prop} (q : ∀ t tk', Q (.bytes x.toArray t) ⟨h, g, d, tk', os⟩) : wpAny (model prog w) A (eval (.Constant (.bytes x) k pos) env) Q E ⟨h, g, d, tk, os⟩ := Constant_bytes (q _ _)
theorem kit_self {t : Value} : kitOne K t t = some true := by unfold kitOne; rw [if_pos (beq_self_eq_true t)]
theorem kit_ref {t : Value} {C : Addr} {v : Bool} (ne : (t == .ref C) = false) (dd : hasDictIn K C = true) (ty : typeIn K (.ref C) = some (.type "type")) (s : subIn K t (.ref C) = some v) : kitOne K t (.ref C) = some v := by
 have c : (clsIn K C).isSome = true := by obtain ⟨cd, hc, _⟩ := any_some dd; rw [hc]; rfl
 unfold kitOne kitCls
 rw [ne, if_neg Bool.false_ne_true]
 simp only [c, ty, s, beq_self_eq_true, Bool.and_self, if_true]
theorem kit_ty {t : Value} {T : String} {v : Bool} (ne : (t == .type T) = false) (m : kitMeta T = true) (s : subIn K t (.type T) = some v) : kitOne K t (.type T) = some v := by
 unfold kitOne kitCls
 rw [ne, if_neg Bool.false_ne_true]
 simp only [m, s, if_true]
structure KiOk (D : Addr) : Prop where
  hg : plainGet K D "__class__" = true
  hdct : hasDictIn K D = true
  ha : findIn K (.ref D) "__class__" = some (some (.builtin "object.__class__"))
  hn : specialIn K (.builtin "object.__class__") "__get__" = some (some (.builtin "getset_descriptor.__get__"))
  htk : takesIn K (.builtin "object.__class__") = some true
  hm : mroIn K D (.type "object") = some true
theorem isi_int {c : Value} {n : Int} {t : Tok} {b : Bool} {Q : Value → Shared → Prop} (f : Fm h₀ F₀ W mu F h) (e : kitOne K (.type "int") c = some b) (q : ∀ tk', Q (.bool b) ⟨h, g, d, tk', os⟩) :
  wpAny (model prog w) A (call (.builtin "isinstance") [.int n t, c]) Q E ⟨h, g, d, tk, os⟩ := r_isi kitx_int f trivial e (fun z => nomatch z) q
theorem isi_own {c : Value} {a C da : Addr} {fs : Fs} {b : Bool} {Q : Value → Shared → Prop} (f : Fm h₀ F₀ W mu F h) (ha : F a = some (Raw (instObj C da))) (hd : At mu F da (idc fs)) (k : KiOk C) (e : kitOne K (.ref C) c = some b) (q : ∀ tk', Q (.bool b) ⟨h, g, d, tk', os⟩) :
  wpAny (model prog w) A (call (.builtin "isinstance") [.ref a, c]) Q E ⟨h, g, d, tk, os⟩ := by
 obtain ⟨od, I, lo⟩ := inst_at f ha hd
 exact r_isi (kitx_own k.hg k.hdct k.ha k.hn k.htk k.hm) f I e (fun z => nomatch z) q
theorem isi_list {c : Value} {a : Addr} {vs : List Value} {b : Bool} {Q : Value → Shared → Prop} (f : Fm h₀ F₀ W mu F h) (ha : At mu F a (lst vs)) (e : kitOne K (.type "list") c = some b) (q : ∀ tk', Q (.bool b) ⟨h, g, d, tk', os⟩) :
  wpAny (model prog w) A (call (.builtin "isinstance") [.ref a, c]) Q E ⟨h, g, d, tk, os⟩ := by
 refine r_isi kitx_list f ?_ e (fun z => nomatch z) q
 obtain ⟨o, h1, h2, _⟩ := lst_list (ha.has f)
 exact ⟨o, h1, h2⟩
end
inductive DecAt (F : Fz) (a : Addr) (m : Int) (p : Nat) : Prop
  | mk (da t u) (e0 : F a = some (Raw (instObj 167 da))) (e1 : F da = some (idc [("top", some (.int m t)), ("places", some (.int p u))])) : DecAt F a m p
inductive DecV (F : Fz) (v : Value) (x : Rat) : Prop
  | mk (a m p) (e0 : v = .ref a) (e1 : DecAt F a m p) (e2 : Nf m p x) : DecV F v x
noncomputable def NumV (F : Fz) (v : Value) (x : Rat) : Prop := (∃ n t, v = .int n t ∧ x = (n : Int)) ∨ DecV F v x
theorem DecAt.mono {F F' : Fz} {a : Addr} {m : Int} {p : Nat} (l : Le F F') (h : DecAt F a m p) : DecAt F' a m p := by
 obtain ⟨da, t, u, x, y⟩ := h
 exact ⟨da, t, u, l _ _ x, l _ _ y⟩
theorem DecV.mono {F F' : Fz} {v : Value} {x : Rat} (l : Le F F') (h : DecV F v x) : DecV F' v x := by
 obtain ⟨a, m, p, e, k, n⟩ := h
 exact ⟨a, m, p, e, k.mono l, n⟩
theorem NumV.mono {F F' : Fz} {v : Value} {x : Rat} (l : Le F F') (h : NumV F v x) : NumV F' v x := h.elim .inl fun k => .inr (k.mono l)
theorem DecV.num {F : Fz} {v : Value} {x : Rat} (h : DecV F v x) : NumV F v x := .inr h
theorem NumV.int {F : Fz} {n : Int} {t : Tok} : NumV F (.int n t) (n : Int) := .inl ⟨n, t, rfl, rfl⟩
theorem bits_small {a b : Int} {e f : Nat} (ha : a.natAbs < 2 ^ e) (hb : b.natAbs < 2 ^ f) (h : e + f ≤ 134217728) : IntMulOk a b :=
 IntMulOk.of_le (intBits_le_iff.mpr ha) (intBits_le_iff.mpr hb) h
end Pg
end
section
open PySem PySem.W PyProof.Rows PySem.Calls
namespace Pg
section
variable {A : Around} {env : Env} {gt gt' : Gt} {h₀ h : Heap} {F₀ F : Fz} {W : List Addr} {mu : Mu} {ls : Fs} {tk : Nat} {s : Shared} {QF : Flow → Shared → Prop}
theorem CompOk.ok {scope : Scope} {cl : List (Str × Addr)} {C : Addr} (_k : CompOk scope cl env (compE scope cl C env)) (gt' : Gt) (e : EnvOk env gt) (hk : scope.kind = .function) (hg : (gt'.all fun p => scope.names.lookup p.1 == some .globalImplicit && !(p.1 == ("__debug__" : Str))) = true) (hgv : ∀ p ∈ gt', Gv p.1 p.2) : EnvOk (compE scope cl C env) gt' := comp_ok e hk hg hgv
noncomputable def Mc (M : Model) (A : Around) (env : Env) (pos : Pos) (args : List Expr) (Q : Value → Shared → Prop) (E : Value → Shared → Prop) (fx : Value × List Value) (s : Shared) : Prop := wpAny M A (callWith pos fx.1 fx.2 (backTo pos (starEach args env)) []) Q E s
theorem r_methP {value : Expr} {x : Str} {apos pos : Pos} {args : List Expr} {pl : Sem Bool} {Q : Value → Shared → Prop}
  (q : wpAny (model prog w) A (eval value env) (fun o s₁ => wpAny (model prog w) A (getMethod o x pl) (fun fx s₂ => Mc (model prog w) A env pos args Q E fx s₂) E s₁) E s)
  (he : eval (.Call (.Attribute value x apos) args [] pos) env = (do
   let ov ← eval value env
   standAt apos.atName
   let (f, first) ← holding [ov] (getMethod ov x pl)
   callWith pos f first (backTo pos (starEach args env)) [])) : wpAny (model prog w) A (eval (.Call (.Attribute value x apos) args [] pos) env) Q E s := PyProof.Rows.MethodCall_ q he
theorem mc_1 {f a : Value} {e : Expr} {rest : List Expr} {pos : Pos} {Q : Value → Shared → Prop} (ok : EnvOk env gt) (k : Kp f) (h : wpAny (model prog w) A (spliced (backTo pos (starEach (e :: rest) env))) (fun vs s₁ => Ck f (wpAny (model prog w) A (call f (a :: vs)) Q E s₁) s₁) E s)
  (he : starEach (e :: rest) env = (false, eval e env) :: starEach rest env) (hplain : (backTo pos (starEach rest env)).any (·.1) = false) :
  Mc (model prog w) A env pos (e :: rest) Q E (f, [a]) s := callWith_ck (first := [a]) k h he hplain
theorem mc_0 {f a : Value} {pos : Pos} {Q : Value → Shared → Prop} (ok : EnvOk env gt) (k : Kp f) (h : Ck f (wpAny (model prog w) A (call f [a]) Q E s) s) : Mc (model prog w) A env pos [] Q E (f, [a]) s := callWith_ck0 (first := [a]) k h
theorem gm_get {KT : Type} [DecidableEq KT] {knd : KeyKind prog w KT} {l : Addr} {kvs : List (KT × Value)} {pl : Sem Bool} {Q : Value × List Value → Shared → Prop} (f : Fm h₀ F₀ W mu F h) (hl : At mu F l (dic knd kvs)) (q : Q (.builtin "dict.get", [.ref l]) ⟨h, g, d, tk, os⟩) : wpAny (model prog w) A (getMethod (.ref l) "get" pl) Q E ⟨h, g, d, tk, os⟩ := by
 have hD := dic_of (hl.has f)
 have tI : (⟨h, g, d, tk, os⟩ : Shared).TypeIs (.ref l) "dict" := hD.typeIs
 exact getMethod_builtin tI PySem.F.plainAttrs_dict PySem.F.slot_dict_get PySem.F.type_dict_get hD.mapOf.noDict q
theorem r_get2 {KT : Type} [DecidableEq KT] {knd : KeyKind prog w KT} {l : Addr} {kvs : List (KT × Value)} {k : KT} {key dflt : Value} {Q : Value → Shared → Prop} (f : Fm h₀ F₀ W mu F h) (hl : At mu F l (dic knd kvs)) (lo : (l == sysModules) = false) (hkey : knd.is k key = true) (x : Option Value) (hx : valueAt kvs k = x) (q : ∀ tk', Q (x.getD dflt) ⟨h, g, d, tk', os⟩) :
  wpAny (model prog w) A (call (.builtin "dict.get") [.ref l, key, dflt]) Q E ⟨h, g, d, tk, os⟩ := by
 have hD := dic_of (hl.has f)
 have tI : (⟨h, g, d, tk, os⟩ : Shared).TypeIs (.ref l) "dict" := hD.typeIs
 exact call_meetsIn PySem.F.slot_dict_get tI PySem.F.entry_dict_get (PySem.F.args_dict_get_3 _ _ _) (meets_dict_get_default knd l hkey lo dflt) ⟨_, hD.mapOf, by rw [hx]; exact q _⟩
theorem r_get2s {KT : Type} [DecidableEq KT] {knd : KeyKind prog w KT} {l : Addr} {kvs : List (KT × Value)} {k : KT} {key dflt x : Value} {Q : Value → Shared → Prop} (f : Fm h₀ F₀ W mu F h) (hl : At mu F l (dic knd kvs)) (lo : (l == sysModules) = false) (hkey : knd.is k key = true) (hx : Ld kvs k x) (q : ∀ tk', Q x ⟨h, g, d, tk', os⟩) :
  wpAny (model prog w) A (call (.builtin "dict.get") [.ref l, key, dflt]) Q E ⟨h, g, d, tk, os⟩ := by
 have nd : (kvs.map (·.1)).Nodup := let ⟨_, _, _, _, _, _, _, _, z⟩ := dic_of (hl.has f); z
 exact r_get2 f hl lo hkey (some x) (hx.at nd) q
theorem r_get2n {KT : Type} [DecidableEq KT] {knd : KeyKind prog w KT} {l : Addr} {kvs : List (KT × Value)} {k : KT} {key dflt : Value} {Q : Value → Shared → Prop} (f : Fm h₀ F₀ W mu F h) (hl : At mu F l (dic knd kvs)) (lo : (l == sysModules) = false) (hkey : knd.is k key = true) (hx : valueAt kvs k = none) (q : ∀ tk', Q dflt ⟨h, g, d, tk', os⟩) :
  wpAny (model prog w) A (call (.builtin "dict.get") [.ref l, key, dflt]) Q E ⟨h, g, d, tk, os⟩ := r_get2 f hl lo hkey none hx q
inductive CvC (h₀ : Heap) (F₀ : Fz) (W : List Addr) (p1 p2 p3 p4 p5 : Addr × Cell) (F : Fz) (J : Mu → Fz → Prop) (s : Shared) : Prop
  | mk (mu : Mu) (F' : Fz) (h : Heap) (tk : Nat) (e : s = ⟨h, g, d, tk, os⟩) (f : Fm h₀ F₀ W (p1 :: p2 :: p3 :: p4 :: p5 :: mu) F' h) (le : Le F F') (j : J mu F') : CvC h₀ F₀ W p1 p2 p3 p4 p5 F J s
inductive CStC (h₀ : Heap) (F₀ : Fz) (W : List Addr) (q : Addr × Cell) (cx D I : Addr) (c : Nat → Cell) (p : Addr × Cell) (n : Nat) (F : Fz) (J : Nat → List Value → Mu → Fz → Prop) (k : Nat) (s : Shared) : Prop
  | mk (i : Nat) (hi : i ≤ n) (ek : k = n - i) (vs : List Value) (xo : Option Value) (mu : Mu) (F' : Fz) (h : Heap) (tk : Nat) (e : s = ⟨h, g, d, tk, os⟩) (hl : vs.length = i) (f : Fm h₀ F₀ W (q :: (cx, cel xo) :: (D, lst vs) :: (I, c i) :: p :: mu) F' h) (le : Le F F') (j : J i vs mu F') : CStC h₀ F₀ W q cx D I c p n F J k s
theorem comp_goC {elt iter : Expr} {x : Str} {px : Pos} {scope : Scope} {pos : Pos} {cl : List (Str × Addr)} {I : Addr} {n : Nat} {P : Nat → Value → Prop} {c : Nat → Cell} {Q : Value → Shared → Prop} (J : Nat → List Value → Mu → Fz → Prop)
  (S : Src prog w A F I n P c) (f : Fm h₀ F₀ W ((env.locals, frm env ls) :: (I, c 0) :: mu) F h) (hI : Own h₀ W I) (j0 : J 0 [] mu F) (hn : n ≤ 1000)
  (hcf : ∀ m, cellsFrom m scope.names cl = (x, m) :: cl) (hpc : ∀ y, pushCells y scope.names = y.push { cls := .type "cell", data := .cell none }) (hk : scope.kind = .function) (hx : scope.names.lookup x = some .cell)
  (turn : ∀ C cx i v vs mu' F' h' tk', i < n → P i v → vs.length = i → J i vs mu' F' → Le F F' → CompOk scope ((x, cx) :: cl) env (compE scope ((x, cx) :: cl) C env) →
   (∀ D, Fm h₀ F₀ W (((compE scope ((x, cx) :: cl) C env).locals, frm (compE scope ((x, cx) :: cl) C env) []) :: (cx, cel (some v)) :: (D, lst vs) :: (I, c (i + 1)) :: (env.locals, frm env ls) :: mu') F' h' →
   wpAny (model prog w) A (eval elt (compE scope ((x, cx) :: cl) C env)) (fun y s₃ => CvC h₀ F₀ W ((compE scope ((x, cx) :: cl) C env).locals, frm (compE scope ((x, cx) :: cl) C env) []) (cx, cel (some v)) (D, lst vs) (I, c (i + 1)) (env.locals, frm env ls) F (J (i + 1) (vs ++ [y])) s₃) E ⟨h', g, d, tk', os⟩))
  (done : ∀ D vs mu' F' F'' h' tk', vs.length = n → J n vs mu' F' → Le F F' → Le F' F'' → F'' D = some (lst vs) → Fm h₀ F₀ W ((env.locals, frm env ls) :: mu') F'' h' → Q (.ref D) ⟨h', g, d, tk', os⟩) :
  CompGo (model prog w) A E env (.ListComp elt [⟨.Name x px, iter, [], 0⟩] scope pos) scope cl none Q (.ref I) ⟨h, g, d, tk, os⟩ := by
 refine wpAny_newObj_type (wpAny_compEnv ?_)
 obtain ⟨f1, o1⟩ := f.pushN (c := lst []) (o := { cls := .type "list", data := .seq ([] : List Value).toArray }) ⟨0, rfl⟩ rfl
 generalize hD : h.objs.size = D at *
 generalize hh1 : h.push { cls := .type "list", data := .seq ([] : List Value).toArray } = h1 at *
 dsimp only at *
 rw [hcf, hpc]
 have hcx : (h1.push { cls := .type "dict", data := .dict #[] }).objs.size = h1.objs.size + 1 := Heap.size_push ..
 rw [← hcx]
 generalize hcx' : (h1.push { cls := .type "dict", data := .dict #[] }).objs.size = cx at *
 have oo : ∀ (y : Heap), y = (h1.push { cls := .type "dict", data := .dict #[] }).push { cls := .type "cell", data := .cell none } → Fm h₀ F₀ W ((h1.objs.size, frm (compE scope ((x, cx) :: cl) h1.objs.size env) []) :: (cx, cel none) :: (D, lst []) :: (I, c 0) :: (env.locals, frm env ls) :: mu) F y ∧ Own h₀ W h1.objs.size ∧ Own h₀ W cx := by
  rintro y rfl
  obtain ⟨f2, o2⟩ := f1.pushN (c := frm (compE scope ((x, cx) :: cl) h1.objs.size env) []) (o := { cls := .type "dict", data := .dict #[] }) ⟨⟨by simp, #[], 0, rfl, fun e he => by simp at he, fun y => rfl⟩, fun p hp => by cases hp⟩ rfl
  obtain ⟨f3, o3⟩ := f2.pushN (c := cel none) (o := { cls := .type "cell", data := .cell none }) rfl rfl
  subst hcx'
  have f4 := f3.perm (List.perm_middle (l₁ := [(_, _), (_, _), (_, _), (_, _)])).symm
  exact ⟨Fm.swap f4, o2, o3⟩
 obtain ⟨f2, o2, o3⟩ := oo _ rfl
 generalize hC : h1.objs.size = C at *
 generalize (h1.push { cls := .type "dict", data := .dict #[] }).push { cls := .type "cell", data := .cell none } = h2 at *
 clear oo f1 hcx hcx'
 have kc : (compE scope ((x, cx) :: cl) C env).kindOf x = some .cell ∧ (compE scope ((x, cx) :: cl) C env).cells.lookup x = some cx := ⟨lookup_relabel (by decide) hx, by show ((x, cx) :: cl).lookup x = _; rw [List.lookup_cons, beq_self_eq_true]⟩
 have loop : codeAny (model prog w) A (.compLoop (.ListComp elt [⟨.Name x px, iter, [], 0⟩] scope pos) 0 (.ref I) (.ref D) (compE scope ((x, cx) :: cl) C env))
   (compPost (model prog w) A E none Q (.ref D) C) ⟨h2, g, d, tk, os⟩ := by
  refine codeAny_compLoop_list (CStC h₀ F₀ W (C, frm (compE scope ((x, cx) :: cl) C env) []) cx D I c (env.locals, frm env ls) n F J) ?_ n
   ⟨0, Nat.zero_le _, rfl, [], none, mu, F, h2, tk, rfl, rfl, f2, Le.rfl, j0⟩
  rintro k s ⟨i, hi, rfl, vs, xo, mu', F', h', tk', rfl, hl, f', le, j⟩
  have S' := S.mono le
  have hc := (f'.mus.has (I, c i) (.tail _ (.tail _ (.tail _ (.head _))))).1
  rcases Nat.lt_or_ge i n with lt | ge
  ·refine S'.item i _ _ _ lt f'.ext.fz hc fun v h₁ tk₁ hP hc' hk' => ?_
   have f₁ := f'.turn (.tail (.tail (.tail .head))) hk' hc'
   refine wpAny_assign_Name (wpAny_storeName_cell hk kc.1 kc.2 (cel_is (f₁.mus.has (cx, cel xo) (.tail _ (.head _))).1) fun h₂ y ss => ?_)
   have f₂ : Fm h₀ F₀ W (((compE scope ((x, cx) :: cl) C env).locals, frm (compE scope ((x, cx) :: cl) C env) []) :: (cx, cel (some v)) :: (D, lst vs) :: (I, c (i + 1)) :: (env.locals, frm env ls) :: mu') F' h₂ :=
    f₁.turn (.tail .head) (fun b o nb eb => (ss.2 b nb).trans eb) y
   refine wpAny_mono (turn C cx i v vs mu' F' h₂ _ lt hP hl j le ⟨rfl, rfl⟩ D f₂) (fun y s₃ h₃ => ?_) fun _ _ z => z.elim
   obtain ⟨mu'', F'', h'', tk'', rfl, f₃, le₃, j₃⟩ := h₃
   have hD := (f₃.mus.has (D, lst vs) (.tail _ (.tail _ (.head _)))).1
   obtain ⟨o, eo, m, ho⟩ := id hD
   subst ho
   refine append_at eo (fun h₄ sb e4 => ?_) (by show vs.toArray.size ≤ _; rw [List.size_toArray, sizeLine_eq]; k_extra "om")
   refine ⟨n - (i + 1), by k_extra "om", i + 1, lt, rfl, vs ++ [y], some v, mu'', F'', h₄, tk'', rfl, by simp [hl], ?_, le₃, j₃⟩
   exact f₃.turn (.tail (.tail .head)) (fun b o nb eb => (sb.2 b nb).trans eb) ⟨_, e4, m + 1, by simp⟩
  ·have e : i = n := Nat.le_antisymm hi ge
   subst e
   refine S'.done _ _ _ f'.ext.fz hc fun h₁ tk₁ hk' => ?_
   have f₁ := f'.lose (.tail (.tail (.tail .head))) hk' hI.h0 hI.nw
   refine ⟨_, dct_ns (frm_dct (f₁.mus.has _ (.head _)).1), fun h'' sb => ?_⟩
   have f₂ := (f₁.lose (h' := h'') .head (fun b o nb eb => (sb.2 b nb).trans eb) o2.h0 o2.nw).lose (h' := h'') .head (fun _ _ _ e => e) o3.h0 o3.nw
   exact done D vs mu' F' _ h'' tk₁ hl j le (Fz.le_set (f₂.mus.has (D, lst vs) (.head _)).2) Fz.set_self (f₂.freeze .head o1.h0 o1.nw)
 exact codeAny_compStart_list loop (S.self _ _ _ f2.ext.fz ((f2.mus.has (I, c 0) (.tail _ (.tail _ (.tail _ (.head _))))).1) loop)
end
theorem bindL_eq {k : Str → Option NameKind} : ∀ (binds : List (Str × Value)) (m : Str → Option Value) (y : Str), bindL k binds m y = ((binds.filter fun p => k p.1 == some .local).reverse.lookup y).or (m y)
 | [], m, y => rfl
 | (n, v) :: r, m, y => by
  show bindL k r _ y = _
  rw [bindL_eq r]
  by_cases h : k n = some .local
  ·rw [if_pos h, List.filter_cons_of_pos (by simp [h]), List.reverse_cons, List.lookup_append]
   show _ = Option.or (Option.or _ (List.lookup y [(n, v)])) _
   rw [Option.or_assoc]
   congr 1
   rw [List.lookup_cons]
   by_cases e : y = n
   ·subst e; simp
   ·rw [if_neg e, beq_eq_false_iff_ne.mpr e]; rfl
  ·rw [if_neg h, List.filter_cons_of_neg (by simp [h])]
section
variable {A : Around} {h₀ h : Heap} {F₀ F : Fz} {W : List Addr} {mu mv : Mu} {tk : Nat}
theorem enterC {n : Nat} {f : Addr} {name qual : Str} {params : Arguments} {body : List Stmt} {scope : Scope} {dV kV doc pm cdv ct oc : Value} {an od : Option Addr} {osl : Array (Option Value)} {args : List Value} {binds : List (Str × Value)} {Q : Value → Shared → Prop}
  (lb : List (Str × Value)) (rest : List Str) (gt : Gt) (ls : Fs) (cm : Addr → Mu) (hR : Room (n + 1) A) (f0 : Fm h₀ F₀ W mv F h) (ms : Mus F h mu)
  (ho : K.lookup f = some ⟨oc, od, .func (fnOf name qual params body scope dV kV doc pm an cdv ct), osl⟩) (hcd : codeIn K cdv qual = true)
  (hbind : BindsTo ⟨h, g, d, tk, os⟩ (fnOf name qual params body scope dV kV doc pm an cdv ct) ⟨args, []⟩ binds) (hlb : binds.filter (fun p => scope.names.lookup p.1 == some .local) = lb) (hl : lb.map (fun p => (p.1, some p.2)) ++ rest.map (fun x => (x, none)) = ls)
  (hcm : ∀ L, (cellsFrom (L + 1) scope.names []).map (fun p => (p.2, cel (bindC (fun z => scope.names.lookup z) binds (fun _ => none) p.1))) = cm L)
  (hnd : (lb.map (·.1) ++ rest).Nodup) (hkl : ((lb.map (·.1) ++ rest).all fun x => scope.names.lookup x == some .local) = true) (hkg : (gt.all fun p => scope.names.lookup p.1 == some .globalImplicit && !(p.1 == ("__debug__" : Str))) = true) (hgv : ∀ p ∈ gt, Gv p.1 p.2)
  (hco : scope.isCoroutine = false) (hgen : scope.isGenerator = false) (hk : scope.kind = .function)
  (hkc : (((cellsFrom 0 scope.names []).map (·.1)).all fun x => scope.names.lookup x == some .cell) = true) (hcn : ((cellsFrom 0 scope.names []).map (·.1)).Nodup)
  (hkind : (binds.all fun x => scope.names.lookup x.1 == some .local || (scope.names.lookup x.1 == some .cell && ((cellsFrom 0 scope.names []).map (·.1)).contains x.1)) = true)
  (go : ∀ env h₁ tk₁ L, EnvOk env gt → (∀ x c, (x, c) ∈ cellsFrom (L + 1) scope.names [] → (env.kindOf x = some .cell ∧ env.cells.lookup x = some c) ∧ Own h (adr mu) c) → Fm h F (adr mu) ((env.locals, frm env ls) :: (cm L ++ mu)) F h₁ → Room n (A.deeper env) →
   wpAny (model prog w) (A.deeper env) (execs body env) (Rt Q) E ⟨h₁, g, d, tk₁, os⟩) :
  codeAny (model prog w) A (.call (.ref f) ⟨args, []⟩) (Rv Q) ⟨h, g, d, tk, os⟩ := by
 have B := f0.now
 have sub := f0.ext.fz
 have X := B.kin sub
 have keys : ls.map (·.1) = lb.map (·.1) ++ rest := by
  rw [← hl, List.map_append, List.map_map, List.map_map]
  congr 1
  exact List.map_id' _
 have ndk : (lb.map (·.1)).Nodup := (List.nodup_append.mp hnd).1
 have cns : ∀ m, (cellsFrom m scope.names []).map (·.1) = (cellsFrom 0 scope.names []).map (·.1) := fun m => cellsFrom_names _ _ _ _ _ rfl
 refine codeAny_call_function hR.lim (X _ _ ho) rfl hco hgen rfl (codeRec_of X hcd) (hbind _ _ _ _ ?_)
 refine wpAny_newFunctionEnv_cells hk (fun x hx => ?_) fun env he s' x => ?_
 ·have := List.all_eq_true.mp hkind x hx
  simp only [Bool.or_eq_true, Bool.and_eq_true, beq_iff_eq] at this
  rcases this with h | ⟨h1, h2⟩
  ·exact .inl h
  ·refine .inr ⟨h1, ?_⟩
   have h2' : x.1 ∈ (cellsFrom (h.objs.size + 1) scope.names []).map (·.1) := by rw [cns]; exact List.contains_iff_mem.mp h2
   obtain ⟨⟨x', c⟩, hp, e⟩ := List.mem_map.mp h2'
   have := lookup_of_mem_nodup (by rw [cns]; exact hcn) hp
   rw [show x' = x.1 from e] at this
   show (List.lookup x.1 (cellsFrom (h.objs.size + 1) scope.names [])).isSome = true
   rw [this]; rfl
 obtain ⟨h₁, tk₁, rfl, hk₁⟩ := x.done
 have kk : ∀ c a, Has h a c → Has h₁ a c := fun c a ⟨o, e, k⟩ => ⟨o, hk₁ _ _ e, k⟩
 refine ⟨(B.lim sub).keeps hk₁, codeAny_func ?_⟩
 have eL : env.locals = h.objs.size := by rw [he]; rfl
 have ec : env.cells = cellsFrom (h.objs.size + 1) scope.names [] := by rw [he]; rfl
 have ek : env.kindOf = fun z => scope.names.lookup z := by rw [he]; rfl
 have fr : ∀ a, h.objs.size ≤ a → h.get? a = none ∧ F a = none ∧ a ∉ adr mu := fun a ha => by
  have e1 : h.get? a = none := by
   cases q : h.get? a with
   | none => rfl
   | some o => exact absurd (Heap.lt_size q) (Nat.not_lt.mpr ha)
  refine ⟨e1, ?_, fun q => ?_⟩
  ·cases q : F a with
   | none => rfl
   | some k => exact absurd e1 (sub _ _ q).ne_none
  ·obtain ⟨p, hp, e⟩ := of_mem_adr q
   exact absurd e1 (e ▸ (ms.has p hp).1.ne_none)
 have cellAt : ∀ x' c, (x', c) ∈ cellsFrom (h.objs.size + 1) scope.names [] → env.cells.lookup x' = some c ∧ Has h₁ c (cel (bindC (fun z => scope.names.lookup z) binds (fun _ => none) x')) ∧ h.objs.size < c := fun x' c hm => by
  have l1 : env.cells.lookup x' = some c := by rw [ec]; exact lookup_of_mem_nodup (by rw [cns]; exact hcn) hm
  refine ⟨l1, ?_, ?_⟩
  ·have := x.cell x' c l1
   rw [ek] at this
   exact this
  ·have := x.above x' c (by rw [ec]; exact hm)
   rwa [eL] at this
 have hL : Has h₁ env.locals (frm env ls) := by
  obtain ⟨o, e1, e2⟩ := ns_dct x.toInCall.ns (fs := ls) (keys ▸ hnd) (fun y => by
   rw [bindL_eq, ek, hlb, lookup_rev ndk, ← hl, look_some]
   cases lb.lookup y <;> rfl)
  refine ⟨o, e1, e2, fun p hp => ?_⟩
  have : p.1 ∈ lb.map (·.1) ++ rest := keys ▸ List.mem_map_of_mem (f := (·.1)) hp
  rw [ek]
  exact beq_iff_eq.mp (List.all_eq_true.mp hkl _ this)
 have cmM : ∀ p ∈ cm h.objs.size, Has h₁ p.1 p.2 ∧ h.objs.size < p.1 := fun p hp => by
  rw [← hcm] at hp
  obtain ⟨⟨x', c⟩, hm, rfl⟩ := List.mem_map.mp hp
  exact ⟨(cellAt x' c hm).2.1, (cellAt x' c hm).2.2⟩
 have cmN : (adr (cm h.objs.size)).Nodup := by
  rw [← hcm]
  unfold adr
  rw [List.map_map]
  have := x.apart
  rw [ec] at this
  exact List.pairwise_map.mpr this
 refine wpAny_mono (go env h₁ _ h.objs.size ⟨by rw [he]; exact hk, by rw [he]; rfl, by rw [he]; rfl, fun p hp => ?_⟩ (fun x' c hm => ⟨⟨?_, (cellAt x' c hm).1⟩, (fr c (Nat.le_of_lt (cellAt x' c hm).2.2)).1, (fr c (Nat.le_of_lt (cellAt x' c hm).2.2)).2.2⟩)
  ⟨⟨fun a o e _ => hk₁ a o e, Le.rfl, fun a c e => kk _ _ (sub a c e), fun a c e => .inl e⟩, ⟨fun p hp => ?_, ?_⟩, fun p hp => ?_, fun a ha => ?_, B⟩ hR.deeper) (fun _ _ z => z) fun _ _ z => z.elim
 ·have := List.all_eq_true.mp hkg p hp
  simp only [Bool.and_eq_true, Bool.not_eq_true'] at this
  exact ⟨by rw [ek]; exact beq_iff_eq.mp this.1, this.2, hgv p hp⟩
 ·rw [ek]
  have : x' ∈ (cellsFrom 0 scope.names []).map (·.1) := by rw [← cns (h.objs.size + 1)]; exact List.mem_map_of_mem (f := (·.1)) hm
  exact beq_iff_eq.mp (List.all_eq_true.mp hkc _ this)
 ·rcases List.mem_cons.mp hp with rfl | hp
  ·exact ⟨hL, (fr _ (Nat.le_of_eq eL.symm)).2.1⟩
  ·rcases List.mem_append.mp hp with hp | hp
   ·exact ⟨(cmM p hp).1, (fr _ (Nat.le_of_lt (cmM p hp).2)).2.1⟩
   ·exact ⟨kk _ _ (ms.has p hp).1, (ms.has p hp).2⟩
 ·show (env.locals :: (cm h.objs.size ++ mu).map (·.1)).Nodup
  rw [List.map_append]
  refine List.nodup_cons.mpr ⟨fun q => ?_, List.nodup_append.mpr ⟨cmN, ms.nd, fun a ha b hb e => ?_⟩⟩
  ·rcases List.mem_append.mp q with q | q
   ·obtain ⟨p, hp, e⟩ := List.mem_map.mp q
    have := (cmM p hp).2
    rw [e, eL] at this
    exact Nat.lt_irrefl _ this
   ·exact (fr _ (Nat.le_of_eq eL.symm)).2.2 q
  ·subst e
   obtain ⟨p, hp, rfl⟩ := List.mem_map.mp ha
   exact (fr _ (Nat.le_of_lt (cmM p hp).2)).2.2 hb
 ·rcases List.mem_cons.mp hp with rfl | hp
  ·exact .inr (fr _ (Nat.le_of_eq eL.symm)).1
  ·rcases List.mem_append.mp hp with hp | hp
   ·exact .inr (fr _ (Nat.le_of_lt (cmM p hp).2)).1
   ·exact .inl (mem_adr hp)
 ·refine .tail _ ?_
  show a ∈ (cm h.objs.size ++ mu).map (·.1)
  rw [List.map_append]
  exact List.mem_append_right _ ha
end
end Pg
end
section
open PySem PySem.W PyProof.Rows PySem.Calls
namespace Pg
section
variable {KT : Type} [DecidableEq KT] {knd : HeapKind prog w KT} {A : Around}
theorem storeAllH {d : Addr} (hu : knd.room A) : ∀ (xs acc : List (KT × Addr × Value)) (s : Shared) (Q : PUnit → Shared → Prop), (∀ x ∈ xs, knd.is s.heap x.1 x.2.1) → s.heap.DictOfH knd d acc → ((acc ++ xs).map (·.1)).Nodup → acc.length + xs.length ≤ sizeLine →
  (∀ h' tk, h'.DictOfH knd d (acc ++ xs) → Heap.SameBut d s.heap h' → Q PUnit.unit { s with heap := h', toks := tk }) →
  wpAny (model prog w) A (forIn (xs.map fun x => (Value.ref x.2.1, x.2.2)) PUnit.unit fun (x : Value × Value) (_ : PUnit) => (do dictSet d x.1 x.2; pure (ForInStep.yield PUnit.unit) : Sem (ForInStep PUnit))) Q E s := by
 intro xs
 induction xs with
 | nil =>
  intro acc s Q _ hm _ _ hQ
  rw [List.map_nil, List.forIn_nil]
  exact wpAny_pure (hQ s.heap s.toks (by rw [List.append_nil]; exact hm) (Heap.SameBut.refl _ _))
 | cons x xs ih =>
  intro acc s Q hi hm nd hz hQ
  obtain ⟨k, a, v⟩ := x
  rw [List.map_cons, List.forIn_cons]
  have nk : atKey acc k = none := by
   rw [List.map_append, List.map_cons] at nd
   have dj := (List.nodup_append.mp nd).2.2
   refine atKey_none_of_get fun j p e => ?_
   exact dj k (List.mem_map.mpr ⟨(k, p), List.mem_of_getElem? e, rfl⟩) k (.head _) rfl
  rw [List.length_cons] at hz
  refine wpAny_bind (wpAny_bind (wpAny_dictSet_heap hu (hi _ (.head _)) hm (fun h₁ hm₁ hs₁ => wpAny_pure ?_) (Nat.le_trans (Nat.le_add_right _ _) hz)))
  obtain ⟨o, es, ep, ho, _, hd, _⟩ := id hm
  rw [storedH_new nk] at hm₁
  refine ih (acc ++ [(k, a, v)]) _ Q (fun x hx => knd.keeps (hi x (.tail _ hx)) ho hd hs₁) hm₁ (by rw [List.append_assoc]; exact nd) (by rw [List.length_append, List.length_singleton, Nat.add_assoc, Nat.add_comm 1]; exact hz) fun h' tk hm' hs' => ?_
  exact hQ h' tk (by rw [List.append_assoc] at hm'; exact hm') (hs₁.trans hs')
theorem Dict_walkH {s : Shared} {env : Env} {keys : List (Option Expr)} {values : List Expr} {pos : Pos} {Q : Value → Shared → Prop} (hu : knd.room A)
  (hall : keys.all (·.isSome) = true) (hl : keys.length = values.length) (h0 : keys ≠ []) (hlen : keys.length ≤ 15)
  (h : wpAny (model prog w) A (evalPairs (pairTrees keys values env pos)) (fun vs s₁ => ∃ xs : List (KT × Addr × Value), vs = xs.map (fun x => (Value.ref x.2.1, x.2.2)) ∧ (∀ x ∈ xs, knd.is s₁.heap x.1 x.2.1) ∧ (xs.map (·.1)).Nodup ∧ s₁.heap.DictOfH knd s.heap.objs.size [] ∧
   ∀ h' tk, h'.DictOfH knd s.heap.objs.size xs → Heap.SameBut s.heap.objs.size s₁.heap h' → Q (.ref s.heap.objs.size) { s₁ with heap := h', toks := tk }) E
   { s with heap := s.heap.push { cls := .type "dict", data := .dict #[] } }) :
  wpAny (model prog w) A (eval (.Dict keys values pos) env) Q E s := by
 have hn := pairTrees_length keys values env pos hall hl
 have hp0 : pairTrees keys values env pos ≠ [] := by
  intro he
  rw [he] at hn
  exact h0 (List.length_eq_zero_iff.mp hn.symm)
 rw [arm_eval_Dict, zip_pairTrees keys values env pos hall hl, dictDisplay_pairs _ hp0 (by k_extra "om")]
 refine wpAny_bind (wpAny_standAt (wpAny_bind ?_))
 unfold subDict
 refine wpAny_bind (wpAny_alloc ?_)
 refine wpAny_bind (wpAny_holding ?_)
 rw [if_pos (by k_extra "om" : (pairTrees keys values env pos).length ≤ 15)]
 refine wpAny_bind (wpAny_mono (wpAny_evalPairs_len h) (fun vs s₁ h₁ => ?_) fun _ _ e => e)
 obtain ⟨hvl, xs, rfl, hi, nd, hm, hQ⟩ := h₁
 rw [List.length_map] at hvl
 refine wpAny_holding ?_
 refine wpAny_bind (storeAllH hu xs [] s₁ _ hi hm (by simpa using nd) (by rw [sizeLine_eq, List.length_nil]; k_extra "om") fun h' tk hm' hs' => wpAny_pure (wpAny_pure (wpAny_pure (hQ h' tk (by simpa using hm') hs'))))
end
noncomputable def TupI (prog : Program) (w : World) (F : Fz) (ks : List Int) (a : Addr) : Prop := ∃ vs, F a = some (tup vs) ∧ ItemsAre (intKind prog w) ks vs
theorem TupI.mono {prog : Program} {w : World} {F F' : Fz} {ks : List Int} {a : Addr} (l : Le F F') (h : TupI prog w F ks a) : TupI prog w F' ks a := by
 obtain ⟨vs, e, i⟩ := h
 exact ⟨vs, l _ _ e, i⟩
theorem TupI.key {prog : Program} {w : World} {F : Fz} {h : Heap} {ks : List Int} {a : Addr} (x : TupI prog w F ks a) (s : Sub F h) : (tupleKind (intKind prog w)).is h ks a := by
 obtain ⟨vs, e, i⟩ := x
 obtain ⟨o, e', n, k⟩ := s _ _ e
 exact ⟨o, vs.toArray, n, e', by rw [k], by rw [k], by simpa using i⟩
theorem TupI.two {prog : Program} {w : World} {F : Fz} {a b : Int} {t u : Tok} {x : Addr} (e : F x = some (tup [.int a t, .int b u])) : TupI prog w F [a, b] x := ⟨_, e, .cons (intKind_is _ _ _ _) (.cons (intKind_is _ _ _ _) .nil)⟩
noncomputable def dicH (prog : Program) (w : World) (xs : List (List Int × Addr × Value)) : Cell := fun o => o.ExactDict ∧ ∃ es ep, o.data = .dict es ep ∧ es.toList = xs.map (entryOfKey (tupleKind (intKind prog w))) ∧ (xs.map (·.1)).Nodup
theorem dicH_of {prog : Program} {w : World} {F : Fz} {h : Heap} {d : Addr} {xs : List (List Int × Addr × Value)} (x : Has h d (dicH prog w xs)) (s : Sub F h) (k : ∀ x ∈ xs, TupI prog w F x.1 x.2.1) : h.DictOfH (tupleKind (intKind prog w)) d xs := by
 obtain ⟨o, e, ed, es, ep, hd, he, nd⟩ := x
 exact ⟨o, es, ep, e, ed, hd, he, fun x hx => (k x hx).key s, nd⟩
theorem of_dicH {prog : Program} {w : World} {h : Heap} {d : Addr} {xs : List (List Int × Addr × Value)} (x : h.DictOfH (tupleKind (intKind prog w)) d xs) : Has h d (dicH prog w xs) := by
 obtain ⟨o, es, ep, e, ed, hd, he, _, nd⟩ := x
 exact ⟨o, e, ed, es, ep, hd, he, nd⟩
section
variable {A : Around} {env : Env} {gt : Gt} {h₀ h : Heap} {F₀ F : Fz} {W : List Addr} {mu : Mu} {ls : Fs} {tk : Nat} {s : Shared} {QF : Flow → Shared → Prop}
theorem Room.tup {n : Nat} (r : Room (n + 1) A) : (tupleKind (intKind prog w)).room A := by
 obtain ⟨a, b, c⟩ := r
 exact Nat.lt_of_le_of_lt (Nat.le_add_right _ _) b
theorem Room.tup1 {n : Nat} (r : Room (n + 1) A) : (tupleKind (intKind prog w)).room A.in1 := by
 obtain ⟨a, b, c⟩ := r
 exact Nat.lt_of_le_of_lt (Nat.add_le_add_left (Nat.le_trans (by decide) (Nat.le_add_left 40 (40 * n))) _) b
noncomputable def MkH (prog : Program) (w : World) (D : Addr) (Q : Value → Shared → Prop) (vs : List (Value × Value)) (s : Shared) : Prop :=
  ∃ xs : List (List Int × Addr × Value), vs = xs.map (fun x => (Value.ref x.2.1, x.2.2)) ∧ (∀ x ∈ xs, (tupleKind (intKind prog w)).is s.heap x.1 x.2.1) ∧ (xs.map (·.1)).Nodup ∧ s.heap.DictOfH (tupleKind (intKind prog w)) D [] ∧
    ∀ h' tk, h'.DictOfH (tupleKind (intKind prog w)) D xs → Heap.SameBut D s.heap h' → Q (.ref D) { s with heap := h', toks := tk }
theorem r_dictH {n : Nat} {b : Addr} {e : Cell} {keys : List (Option Expr)} {values : List Expr} {pos : Pos} {Q : Value → Shared → Prop} (hR : Room (n + 1) A) (f : Fm h₀ F₀ W ((b, e) :: mu) F h) (hall : keys.all (·.isSome) = true) (hl : keys.length = values.length) (h0 : keys ≠ []) (hlen : keys.length ≤ 15)
  (q : ∀ D h', Fm h₀ F₀ W ((b, e) :: (D, dicH prog w []) :: mu) F h' → Own h₀ W D → (D == sysModules) = false → wpAny (model prog w) A (evalPairs (pairTrees keys values env pos)) (fun vs s₁ => MkH prog w D Q vs s₁) E ⟨h', g, d, tk, os⟩) :
  wpAny (model prog w) A (eval (.Dict keys values pos) env) Q E ⟨h, g, d, tk, os⟩ := by
 refine Dict_walkH (knd := tupleKind (intKind prog w)) hR.tup hall hl h0 hlen ?_
 obtain ⟨f', oo⟩ := f.pushN (c := dicH prog w []) (o := { cls := .type "dict", data := .dict #[] }) ⟨⟨rfl, rfl, rfl⟩, #[], 0, rfl, rfl, List.nodup_nil⟩ rfl
 exact q _ _ f' oo (not_mods (f.now.glob_lt f.ext.fz))
theorem mk_dH {D : Addr} {xs : List (List Int × Addr × Value)} {vs : List (Value × Value)} {mu' : Mu} {Q : Value → Shared → Prop} (f : Fm h₀ F₀ W mu F h) (hm : (D, dicH prog w []) ∈ mu) (e : vs = xs.map (fun x => (Value.ref x.2.1, x.2.2))) (k : ∀ x ∈ xs, TupI prog w F x.1 x.2.1) (nd : (xs.map (·.1)).Nodup) (u : Up D (dicH prog w xs) mu mu')
  (q : ∀ h' tk', Fm h₀ F₀ W mu' F h' → Q (.ref D) ⟨h', g, d, tk', os⟩) : MkH prog w D Q vs ⟨h, g, d, tk, os⟩ :=
 ⟨xs, e, fun x hx => (k x hx).key f.ext.fz, nd, dicH_of (f.mus.has _ hm).1 f.ext.fz (fun _ h => nomatch h), fun h' tk x sb => q h' tk (f.turn u (fun b o nb eb => (sb.2 b nb).trans eb) (of_dicH x))⟩
theorem r_inH {n : Nat} {D a : Addr} {xs : List (List Int × Addr × Value)} {ks : List Int} {Q : Value → Shared → Prop} (hR : Room (n + 1) A) (f : Fm h₀ F₀ W mu F h) (hD : At mu F D (dicH prog w xs)) (lo : (D == sysModules) = false) (k : ∀ x ∈ xs, TupI prog w F x.1 x.2.1) (ka : TupI prog w F ks a) (b : Bool) (hb : (atKey xs ks).isSome = b) (q : ∀ tk', Q (.bool b) ⟨h, g, d, tk', os⟩) :
  wpAny (model prog w) A (compareOp .In (.ref a) (.ref D)) Q E ⟨h, g, d, tk, os⟩ := wpAny_in_heap hR.tup1 (ka.key f.ext.fz) lo (dicH_of (hD.has f) f.ext.fz k) (by rw [hb]; exact q _)
theorem r_itemH {n : Nat} {value slice : Expr} {D a : Addr} {xs : List (List Int × Addr × Value)} {ks : List Int} {p : Addr × Value} {Q : Value → Shared → Prop} (hR : Room (n + 1) A) (f : Fm h₀ F₀ W mu F h) (hD : At mu F D (dicH prog w xs)) (k : ∀ x ∈ xs, TupI prog w F x.1 x.2.1) (ka : TupI prog w F ks a) (hb : atKey xs ks = some p) (q : ∀ tk', Q p.2 ⟨h, g, d, tk', os⟩)
  (hs : subscripted slice false (.ref D) (.ref a) = operate [.ref D, .ref a] (getItem (.ref D) (.ref a))) : wpAny (model prog w) A (subscriptTail value slice (.ref D) (.ref a)) Q E ⟨h, g, d, tk, os⟩ := by
 have m := dicH_of (hD.has f) f.ext.fz k
 have tI : (⟨h, g, d, tk, os⟩ : Shared).TypeIs (.ref D) "dict" := m.typeIs
 exact PyProof.Rows.tail_any tI slot_dict_getitem.lookup (wpAny_getItem_heap hR.tup1 (ka.key f.ext.fz) m hb (q _)) hs
theorem iter_list {l : Addr} {vs : List Value} {Q : Value → Shared → Prop} (f : Fm h₀ F₀ W ((env.locals, frm env ls) :: mu) F h) (hl : At ((env.locals, frm env ls) :: mu) F l (lst vs))
  (q : ∀ I h', Fm h₀ F₀ W ((env.locals, frm env ls) :: (I, itL l 0) :: mu) F h' → Own h₀ W I → Q (.ref I) ⟨h', g, d, tk, os⟩) : wpAny (model prog w) A (pyIter (.ref l)) Q E ⟨h, g, d, tk, os⟩ := by
 refine wpAny_pyIter_list (lst_list (hl.has f)) ?_
 obtain ⟨f', o⟩ := f.pushN (c := itL l 0) (o := { cls := .type "list_iterator", data := .fields #[.ref l, .int 0 0] }) ⟨rfl, rfl⟩ rfl
 exact q _ _ f' o
theorem iter_bytes {b : Array UInt8} {t : Tok} {Q : Value → Shared → Prop} (f : Fm h₀ F₀ W ((env.locals, frm env ls) :: mu) F h)
  (q : ∀ I h', Fm h₀ F₀ W ((env.locals, frm env ls) :: (I, itB b t 0) :: mu) F h' → Own h₀ W I → Q (.ref I) ⟨h', g, d, tk, os⟩) : wpAny (model prog w) A (pyIter (.bytes b t)) Q E ⟨h, g, d, tk, os⟩ := by
 refine KBw.pyIter_bytes ?_
 obtain ⟨f', o⟩ := f.pushN (c := itB b t 0) (o := { cls := .type "bytes_iterator", data := .fields #[.bytes b t, .int 0 0] }) ⟨rfl, rfl⟩ rfl
 exact q _ _ f' o
theorem r_itemN {value slice : Expr} {l : Addr} {vs : List Value} {k : Int} {u : Tok} {x : Value} {Q : Value → Shared → Prop} (f : Fm h₀ F₀ W mu F h) (hl : At mu F l (lst vs)) (h0 : k < 0) (h1 : -(vs.length : Int) ≤ k) (hk : -(2 ^ 63) ≤ k) (hx : vs[(k + vs.length).toNat]? = some x) (q : Q x ⟨h, g, d, tk, os⟩)
  (hs : subscripted slice false (.ref l) (.int k u) = operate [.ref l, .int k u] (getItem (.ref l) (.int k u))) : wpAny (model prog w) A (subscriptTail value slice (.ref l) (.int k u)) Q E ⟨h, g, d, tk, os⟩ :=
 PyProof.Rows.tail_any (lst_list (hl.has f)).typeIs slot_list_getitem.lookup (wpAny_getItem_list_neg (lst_list (hl.has f)) h0 (by simpa using h1) hk (by simpa using hx) q) hs
theorem r_addL {l b : Addr} {vs us : List Value} {Q : Value → Shared → Prop} (f : Fm h₀ F₀ W mu F h) (hl : At mu F l (lst vs)) (hb : At mu F b (lst us)) (hz : vs.length + us.length ≤ 1000) (q : ∀ D F' h', Fm h₀ F₀ W mu F' h' → Le F F' → F' D = some (lst (vs ++ us)) → Q (.ref D) ⟨h', g, d, tk, os⟩) :
  wpAny (model prog w) A (binaryOp .Add (.ref l) (.ref b)) Q E ⟨h, g, d, tk, os⟩ := by
 obtain ⟨o, e, n, k⟩ := hl.has f
 obtain ⟨o', e', n', k'⟩ := hb.has f
 subst k k'
 refine PySem.P.add_list e e' ?_ (by rw [sizeLine_eq]; simp; k_extra "om")
 exact q _ _ _ (f.pushF (c := lst (vs ++ us)) ⟨0, by simp⟩ rfl) (Fz.le_set f.none_new) Fz.set_self
theorem r_inL {x : Str} {t : Tok} {l : Addr} {vs : List Value} {Q : Value → Shared → Prop} (f : Fm h₀ F₀ W mu F h) (hl : At mu F l (lst vs)) (hs : Ss vs) (b : Bool) (hb : vs.any (isS x) = b) (q : Q (.bool b) ⟨h, g, d, tk, os⟩) : wpAny (model prog w) A (compareOp .In (.str x t) (.ref l)) Q E ⟨h, g, d, tk, os⟩ := by
 obtain ⟨o, e, n, k⟩ := hl.has f
 subst k
 exact SeqRoads2.in_list (isS x) (eq_isS x t hs) e (by rw [← Array.any_toList]; show Q (.bool (vs.any (isS x))) _; rw [hb]; exact q)
theorem r_extend {l b : Addr} {vs us : List Value} {mu' : Mu} {Q : Value → Shared → Prop} (f : Fm h₀ F₀ W mu F h) (hl : (l, lst vs) ∈ mu) (hb : At mu F b (lst us)) (u : Up l (lst (vs ++ us)) mu mu') (hz : vs.length + us.length ≤ 1000) (q : ∀ h', Fm h₀ F₀ W mu' F h' → Q .none ⟨h', g, d, tk, os⟩) :
  wpAny (model prog w) A (call (.builtin "list.extend") [.ref l, .ref b]) Q E ⟨h, g, d, tk, os⟩ := by
 obtain ⟨o, e, n, k⟩ := (f.mus.has _ hl).1
 obtain ⟨o', e', n', k'⟩ := hb.has f
 subst k k'
 have hz' : vs.toArray.size + us.toArray.size ≤ sizeLine := by rw [sizeLine_eq]; simp; k_extra "om"
 refine call_meets PySem.F.slot_list_extend ⟨_, e, rfl⟩ PySem.F.entry_list_extend (PySem.F.args_list_extend_2 _ _) (AutoSeq1.list_extend_list_list_0 l vs.toArray n b us.toArray n' (extend_door hz') (Nat.le_trans (Nat.le_add_right _ _) hz')) ⟨e, e', ?_⟩
 have e2 : vs.toArray ++ us.toArray = (vs ++ us).toArray := by simp
 refine q _ (f.turn u (fun b o nb eb => ((Heap.SameBut.update ..).2 b nb).trans eb) ⟨_, Heap.get?_update_self _ e (by rw [mapSeq_app]; rfl), ?_⟩)
 rw [mapSeq_app, e2]
 exact ⟨_, rfl⟩
theorem gm_extend {l : Addr} {vs : List Value} {pl : Sem Bool} {Q : Value × List Value → Shared → Prop} (f : Fm h₀ F₀ W mu F h) (hl : (l, lst vs) ∈ mu) (q : Q (.builtin "list.extend", [.ref l]) ⟨h, g, d, tk, os⟩) : wpAny (model prog w) A (getMethod (.ref l) "extend" pl) Q E ⟨h, g, d, tk, os⟩ := by
 obtain ⟨o, e, n, k⟩ := (f.mus.has _ hl).1
 exact getMethod_builtin ⟨o, e, by rw [k]⟩ PySem.F.plainAttrs_list PySem.F.slot_list_extend PySem.F.type_list_extend (fun a z => by cases z; exact ⟨o, e, by rw [k]⟩) q
theorem r_eqT {n : Nat} {l b : Addr} {x y z v : Int} {t1 t2 t3 t4 : Tok} {Q : Value → Shared → Prop} (hR : Room (n + 1) A) (f : Fm h₀ F₀ W mu F h) (hl : At mu F l (tup [.int x t1, .int y t2])) (hb : At mu F b (tup [.int z t3, .int v t4])) (q : Q (.bool (x == z && y == v)) ⟨h, g, d, tk, os⟩) :
  wpAny (model prog w) A (compareOp .Eq (.ref l) (.ref b)) Q E ⟨h, g, d, tk, os⟩ := by
 have hu : A.units < cLine := hR.un
 have h1 := tup_tup (hl.has f)
 have h2 := tup_tup (hb.has f)
 refine SeqAt.eq_tupleAt (e := fun j => if j = 0 then x == z else y == v) h1 h2 hu (fun j j1 j2 => ?_) ?_
 ·have : j = 0 ∨ j = 1 := by simp at j1; k_extra "om"
  rcases this with rfl | rfl
  ·exact SeqAt.EqAt.int_int _ _ _ _
  ·exact SeqAt.EqAt.int_int _ _ _ _
 ·have e : ((List.range (min [Value.int x t1, .int y t2].toArray.size [Value.int z t3, .int v t4].toArray.size)).all (fun j => if j = 0 then x == z else y == v) && [Value.int x t1, .int y t2].toArray.size == [Value.int z t3, .int v t4].toArray.size) = (x == z && y == v) := by
   show (((x == z) && ((y == v) && true)) && true) = _
   rw [Bool.and_true, Bool.and_true]
  rw [e]; exact q
theorem r_eqL0 {n : Nat} {l b : Addr} {Q : Value → Shared → Prop} (hR : Room (n + 1) A) (f : Fm h₀ F₀ W mu F h) (hl : At mu F l (lst [])) (hb : At mu F b (lst [])) (q : Q (.bool true) ⟨h, g, d, tk, os⟩) :
  wpAny (model prog w) A (compareOp .Eq (.ref l) (.ref b)) Q E ⟨h, g, d, tk, os⟩ :=
 SeqAt.eq_listAt (e := fun _ => true) (lst_list (hl.has f)) (lst_list (hb.has f)) rfl hR.un (fun j j1 _ => by simp at j1) (by simpa using q)
theorem r_truthL {l : Addr} {vs : List Value} {Q : Bool → Shared → Prop} (f : Fm h₀ F₀ W mu F h) (hl : At mu F l (lst vs)) (hz : vs.length ≤ 1000) (b : Bool) (hb : (!vs.isEmpty) = b) (q : ∀ tk', Q b ⟨h, g, d, tk', os⟩) : wpAny (model prog w) A (truthy (.ref l)) Q E ⟨h, g, d, tk, os⟩ :=
 wpAny_truthy_list (lst_list (hl.has f)) (by simp; k_extra "om") (by subst hb; simpa using q _)
end
end Pg
end
section
open PySem PySem.W PyProof.Rows PySem.Calls
namespace Pg
theorem noFill_tuple_mul : fillsNumberSlot (.type "tuple") "mul" = pure false :=
 PySem.fillsNumberSlot_seq (id := "tuple.__mul__") (r := some (.builtin "tuple.__rmul__")) PySem.F.slot_tuple_mul.lookup (by decide +kernel) PySem.F.slot_tuple_rmul.lookup (by decide +kernel)
theorem repeat_tuple : seqRepeat? (.type "tuple") = pure (some (.builtin "tuple.__mul__")) := by
 unfold seqRepeat?
 rw [PySem.seqSlot_of (T := "tuple") (name := "__mul__") (id := "tuple.__mul__") PySem.F.slot_tuple_mul.lookup (by decide +kernel), PySem.seqSlot_of (T := "tuple") (name := "__rmul__") (id := "tuple.__rmul__") PySem.F.slot_tuple_rmul.lookup (by decide +kernel)]
 rfl
theorem int_rmul_tuple (a : Int) (t : Tok) (l : Addr) (items : Array Value) (n : Nat) :
  Meets (Builtin.«int.__rmul__» ⟨[.int a t, .ref l], []⟩) (fun _ R s => s.heap.get? l = some { cls := .type "tuple", dict := none, data := .seq items n, slots := #[] } ∧ R (.ok (.ret Value.notImplemented)) s) :=
 .of_wp fun prog w A R s h => by obtain ⟨hp, g, d, tk, os⟩ := s; obtain ⟨hl, h⟩ := h; wp_walk; exact ⟨_, rfl, h⟩
theorem tuple_mul_any (l : Addr) (items : Array Value) (n : Nat) (x : Int) (u : Tok) (hc0 : (decide (x < -(2 ^ 63 : Int)) || decide (x ≥ 2 ^ 63)) = false) (hc1 : (items.isEmpty || x == 1) = false) (hc2 : (decide (x ≤ 0) || items.isEmpty) = false) (hc3 : ¬ (items.size : Int) * x > (2 ^ 63 - 1) / 8) (hc4 : Builtin.Tuple.tupleTooMany ((items.size : Int) * x) = false) (hsz : (List.foldl (fun a b => a ++ b) #[] (List.replicate x.toNat items)).size ≤ sizeLine) :
  Meets (Builtin.«tuple.__mul__» ⟨[.ref l, .int x u], []⟩) (fun _ R s => s.heap.get? l = some { cls := .type "tuple", dict := none, data := .seq items n, slots := #[] } ∧ R (.ok (.ret (.ref s.heap.objs.size))) { s with heap := s.heap.push { cls := .type "tuple", data := .seq (List.foldl (fun a b => a ++ b) #[] (List.replicate x.toNat items)) } }) :=
 .of_wp fun prog w A R s h => by
  obtain ⟨hp, g, d, tk, os⟩ := s; obtain ⟨hl, h⟩ := h
  wp_walk
  rw [hc0]; wp_walk
  rw [if_neg hc3]; wp_walk
  exact ⟨_, rfl, h⟩
section
variable {A : Around} {env : Env} {gt : Gt} {h₀ h : Heap} {F₀ F : Fz} {W : List Addr} {mu : Mu} {ls : Fs} {tk : Nat} {s : Shared} {QF : Flow → Shared → Prop}
theorem mulT {l : Addr} {v : Value} {x : Int} {u : Tok} {vs : List Value} {Q : Value → Shared → Prop} (f : Fm h₀ F₀ W mu F h) (hl : At mu F l (tup [v]))
  (h2 : 2 ≤ x) (h3 : x ≤ 6) (ev : (List.foldl (fun a b => a ++ b) #[] (List.replicate x.toNat [v].toArray)) = vs.toArray) (hz : vs.length ≤ 6)
  (q : ∀ D F' h', Fm h₀ F₀ W mu F' h' → Le F F' → F' D = some (tup vs) → Q (.ref D) ⟨h', g, d, tk, os⟩) : wpAny (model prog w) A (binaryOp .Mult (.ref l) (.int x u)) Q E ⟨h, g, d, tk, os⟩ := by
 obtain ⟨o, e, n, k⟩ := hl.has f
 subst k
 exact wpAny_binaryOp_repeat_ref (T := "tuple") (U := "int") (by decide) ⟨_, e, rfl⟩ (fun s' => typeIs_int s' x u) noFill_tuple_mul PySem.F.fills_int_mul PySem.F.slot_int_rmul repeat_tuple PySem.F.slot_int_index.lookup
  (call_meets PySem.F.slot_int_rmul (typeIs_int _ x u) PySem.F.entry_int_rmul (PySem.F.args_int_rmul_2 _ _) (int_rmul_tuple x u l _ n)
   ⟨e, rfl, ⟨_, e, rfl⟩, call_meets PySem.F.slot_tuple_mul ⟨_, e, rfl⟩ PySem.F.entry_tuple_mul (PySem.F.args_tuple_mul_2 _ _) (tuple_mul_any l _ n x u (by rw [decide_eq_false (by k_extra "om"), decide_eq_false (by k_extra "om")]; rfl) (by simp; k_extra "om") (by simp; k_extra "om") (by simp; k_extra "om") (by simp [Builtin.Tuple.tupleTooMany, sizeLine]; k_extra "om") (by rw [ev, sizeLine_eq]; simp; k_extra "om")) ⟨e, by rw [ev]; exact q _ _ _ (f.pushF (c := tup vs) ⟨0, rfl⟩ rfl) (Fz.le_set f.none_new) Fz.set_self⟩⟩)
theorem r_mulT2 {l : Addr} {v : Value} {u : Tok} {Q : Value → Shared → Prop} (f : Fm h₀ F₀ W mu F h) (hl : At mu F l (tup [v]))
  (q : ∀ D F' h', Fm h₀ F₀ W mu F' h' → Le F F' → F' D = some (tup [v, v]) → Q (.ref D) ⟨h', g, d, tk, os⟩) : wpAny (model prog w) A (binaryOp .Mult (.ref l) (.int 2 u)) Q E ⟨h, g, d, tk, os⟩ := mulT (vs := [v, v]) f hl (by decide) (by decide) rfl (by simp) q
theorem r_mulT6 {l : Addr} {v : Value} {u : Tok} {Q : Value → Shared → Prop} (f : Fm h₀ F₀ W mu F h) (hl : At mu F l (tup [v]))
  (q : ∀ D F' h', Fm h₀ F₀ W mu F' h' → Le F F' → F' D = some (tup [v, v, v, v, v, v]) → Q (.ref D) ⟨h', g, d, tk, os⟩) : wpAny (model prog w) A (binaryOp .Mult (.ref l) (.int 6 u)) Q E ⟨h, g, d, tk, os⟩ := mulT (vs := [v, v, v, v, v, v]) f hl (by decide) (by decide) rfl (by simp) q
theorem fold_rep (v : Value) : ∀ (n : Nat) (acc : Array Value), List.foldl (fun a b => a ++ b) acc (List.replicate n #[v]) = acc ++ (List.replicate n v).toArray
 | 0, acc => by simp
 | n + 1, acc => by
  rw [List.replicate_succ, List.foldl_cons, fold_rep v n, List.replicate_succ]
  apply Array.toList_inj.mp
  simp
theorem mulL_core {b : Addr} {c : Cell} {l : Addr} {items : Array Value} {m : Nat} {x : Int} {u : Tok} {res : List Value} {Q : Value → Shared → Prop} (f : Fm h₀ F₀ W ((b, c) :: mu) F h) (e : h.get? l = some { cls := .type "list", dict := none, data := .seq items m, slots := #[] })
  (c0 : ¬(!Builtin.List.listFitsIndex x) = true) (c1 : ¬items.size * x.toNat > (2 ^ 63 - 1) / 8) (c2 : ¬Builtin.List.listTooLong (items.size * x.toNat) = true) (fe : List.foldl (fun x1 x2 => x1 ++ x2) #[] (List.replicate (if items.isEmpty = true then 0 else x.toNat) items) = res.toArray)
  (q : ∀ D h', Fm h₀ F₀ W ((b, c) :: (D, lst res) :: mu) F h' → Own h₀ W D → Q (.ref D) ⟨h', g, d, tk, os⟩) : wpAny (model prog w) A (binaryOp .Mult (.ref l) (.int x u)) Q E ⟨h, g, d, tk, os⟩ := by
 have M := PySem.AutoListH.list___mul___list_int_3 l items m x u c0 c1 c2
 rw [fe] at M
 obtain ⟨f', oo⟩ := f.pushN (c := lst res) (o := { cls := .type "list", data := .seq res.toArray }) ⟨0, rfl⟩ rfl
 have z := q _ _ f' oo
 exact wpAny_binaryOp_repeat_ref (T := "list") (U := "int") (by decide) ⟨_, e, rfl⟩ (fun s' => typeIs_int s' x u) PySem.noFill_list_mul PySem.F.fills_int_mul PySem.F.slot_int_rmul PySem.repeat_list PySem.F.slot_int_index.lookup
  (call_meets PySem.F.slot_int_rmul (typeIs_int _ x u) PySem.F.entry_int_rmul (PySem.F.args_int_rmul_2 _ _) (PySem.int___rmul___int_list x u l _ m)
   ⟨e, rfl, ⟨_, e, rfl⟩, call_meets PySem.F.slot_list_mul ⟨_, e, rfl⟩ PySem.F.entry_list_mul (PySem.F.args_list_mul_2 _ _) M ⟨e, z⟩⟩)
theorem r_mulL {b : Addr} {c : Cell} {l : Addr} {v : Value} {x : Int} {n : Nat} {u : Tok} {Q : Value → Shared → Prop} (f : Fm h₀ F₀ W ((b, c) :: mu) F h) (hl : At ((b, c) :: mu) F l (lst [v])) (hx : x = (n : Nat)) (hn : n ≤ 1000)
  (q : ∀ D h', Fm h₀ F₀ W ((b, c) :: (D, lst (List.replicate n v)) :: mu) F h' → Own h₀ W D → Q (.ref D) ⟨h', g, d, tk, os⟩) : wpAny (model prog w) A (binaryOp .Mult (.ref l) (.int x u)) Q E ⟨h, g, d, tk, os⟩ := by
 obtain ⟨o, e, m, k⟩ := hl.has f
 subst k
 have fe : List.foldl (fun x1 x2 => x1 ++ x2) #[] (List.replicate (if ([v].toArray).isEmpty = true then 0 else x.toNat) [v].toArray) = (List.replicate n v).toArray := by
  have := fold_rep v n #[]
  rw [hx]
  simpa using this
 obtain ⟨items, hi⟩ : ∃ i, i = [v].toArray := ⟨_, rfl⟩
 rw [← hi] at e fe
 have e1 : items.size = 1 := by rw [hi]; rfl
 exact mulL_core (x := x) f e (by simp [Builtin.List.listFitsIndex]; k_extra "om") (by rw [e1]; k_extra "om") (by rw [e1]; simp [Builtin.List.listTooLong, sizeLine]; k_extra "om") fe q
theorem gm_str {x : Str} {t : Tok} {name : Str} {id : String} {pl : Sem Bool} {Q : Value × List Value → Shared → Prop} (slot : Slot "str" name id) (hty : typeOf (.builtin id) = pure (.type "method_descriptor")) (q : Q (.builtin id, [.str x t]) s) : wpAny (model prog w) A (getMethod (.str x t) name pl) Q E s :=
 getMethod_builtin (typeIs_str s x t) PySem.F.plainAttrs_str slot hty (fun a z => nomatch z) q
theorem r_split1 {x y : Str} {t u : Tok} {Q : Value → Shared → Prop} (f : Fm h₀ F₀ W mu F h) (hx : (decide (x.length < y.length) || decide (Builtin.Str.strKind x < Builtin.Str.strKind y)) = true ∨ ((decide (x.length < y.length) || decide (Builtin.Str.strKind x < Builtin.Str.strKind y)) = false ∧ (y.length == 0) = false ∧ (Builtin.Str.occurrences x y 0 x.length (x.length + 1)).isEmpty = true))
  (q : ∀ D F' h', Fm h₀ F₀ W mu F' h' → Le F F' → F' D = some (lst [.str x t]) → Q (.ref D) ⟨h', g, d, tk, os⟩) : wpAny (model prog w) A (call (.builtin "str.split") [.str x t, .str y u]) Q E ⟨h, g, d, tk, os⟩ := by
 have z : listOfItself x t A (wants Q E) ⟨h, g, d, tk, os⟩ := q _ _ _ (f.pushF (c := lst [.str x t]) ⟨0, rfl⟩ rfl) (Fz.le_set f.none_new) Fz.set_self
 rcases hx with h1 | ⟨h1, h2, h3⟩
 ·exact call_meets PySem.F.slot_str_split (typeIs_str _ _ _) PySem.F.entry_str_split (PySem.F.args_str_split_2 _ _) (meets_str_split_cannot_occur x y t u h1) z
 ·exact call_meets PySem.F.slot_str_split (typeIs_str _ _ _) PySem.F.entry_str_split (PySem.F.args_str_split_2 _ _) (meets_str_split_not_found x y t u h1 h2 h3) z
theorem r_splitW {x : Str} {t : Tok} {Q : Value → Shared → Prop} (f : Fm h₀ F₀ W mu F h) (hx : x.length ≤ 1000) (hn : (Builtin.Str.spaceWords x (x.length + 1)).length ≤ 1000) (hw : (Builtin.Str.spaceWords x (x.length + 1) == [(0, x.length)]) = false)
  (q : ∀ D n F' h' tk', Fm h₀ F₀ W mu F' h' → Le F F' → F' D = some (lst (strsFrom n (PySem.wordsOf x))) → Q (.ref D) ⟨h', g, d, tk', os⟩) : wpAny (model prog w) A (call (.builtin "str.split") [.str x t]) Q E ⟨h, g, d, tk, os⟩ := by
 refine call_meets PySem.F.slot_str_split (typeIs_str _ _ _) PySem.F.entry_str_split (PySem.F.args_str_split_1 _) (meets_str_split_space x t (by rw [sizeLine_eq]; k_extra "om") (by rw [sizeLine_eq]; k_extra "om")) ?_
 simp only [hw, Bool.false_eq_true, if_false]
 exact q _ _ _ _ _ (f.pushF (c := lst (strsFrom tk (PySem.wordsOf x))) ⟨0, rfl⟩ rfl) (Fz.le_set f.none_new) Fz.set_self
theorem r_join1 {x y : Str} {t u : Tok} {l : Addr} {Q : Value → Shared → Prop} (f : Fm h₀ F₀ W mu F h) (hl : At mu F l (lst [.str x t])) (hz : x.length + y.length ≤ 1000) (q : Q (.str x t) ⟨h, g, d, tk, os⟩) :
  wpAny (model prog w) A (call (.builtin "str.join") [.str y u, .ref l]) Q E ⟨h, g, d, tk, os⟩ := by
 refine call_meets PySem.F.slot_str_join (typeIs_str _ _ _) PySem.F.entry_str_join (PySem.F.args_str_join_2 _ _) (meets_str_join_list y u l [(x, t)] ?_) ⟨lst_list (hl.has f), q⟩
 simp [Builtin.Str.tooLong, sizeLine]
 k_extra "om"
theorem r_chr {i : Int} {t : Tok} {Q : Value → Shared → Prop} (h0 : 0 ≤ i) (h1 : i ≤ 1114111) (q : ∀ t tk', Q (.str ⟨#[i.toNat]⟩ t) ⟨h, g, d, tk', os⟩) : wpAny (model prog w) A (call (.builtin "chr") [.int i t]) Q E ⟨h, g, d, tk, os⟩ := by
 refine PySem.P.chr_of_int ?_ (q _ _)
 rw [decide_eq_false (by k_extra "om"), decide_eq_false (by k_extra "om")]; rfl
theorem r_lower {x : Str} {t : Tok} {Q : Value → Shared → Prop} (hz : (PySem.placed x fun i _ => Unicode.lowerAt x.cps i).size ≤ 1000) (q : ∀ t tk', Q (.str ⟨PySem.placed x fun i _ => Unicode.lowerAt x.cps i⟩ t) ⟨h, g, d, tk', os⟩) : wpAny (model prog w) A (call (.builtin "str.lower") [.str x t]) Q E ⟨h, g, d, tk, os⟩ := by
 refine call_meets PySem.F.slot_str_lower (typeIs_str _ _ _) PySem.F.entry_str_lower (PySem.F.args_str_lower_1 _) (gives_str_lower x t (decide_eq_false (by show ¬ _ > sizeLine; rw [sizeLine_eq]; k_extra "om"))).meets ?_
 exact ⟨by show _ ≤ sizeLine; rw [sizeLine_eq]; exact Nat.le_trans hz (by decide), q _ _⟩
noncomputable def Cut0 (Q : Value → Shared → Prop) (o : Value) (s : Shared) : Prop := ∃ t, o = .str "" t ∧ ∀ o' k, o'.isFreed = false → Q (.str "" t) { s with heap := s.heap.push o', toks := k }
theorem cut0 {t : Tok} {Q : Value → Shared → Prop} (f : Fm h₀ F₀ W mu F h) (q : ∀ h' tk', Fm h₀ F₀ W mu F h' → Q (.str "" t) ⟨h', g, d, tk', os⟩) : Cut0 Q (.str "" t) ⟨h, g, d, tk, os⟩ := ⟨t, rfl, fun o' k _ => q _ _ (f.call0 (Ext.push0 f.ext.fz))⟩
theorem r_sliceS0 {value : Expr} {n : Int} {k : Nat} {p p' pos : Pos} {Q : Value → Shared → Prop} (q : wpAny (model prog w) A (eval value env) (Cut0 Q) E s) (hp : ∀ tn, (PySem.slicePicked ("" : Str) none (some (n, tn)) none).length = 0)
  (ht : ∀ o r, letTemporaryGo value o r = pure ()) : wpAny (model prog w) A (eval (.Subscript value (.Slice none (some (.Constant (.int n) k p')) none p) pos) env) Q E s := by
 refine wpAny_Subscript_str_slice (wpAny_mono q (fun o s₁ h₁ => ?_) fun _ _ e => e) ht
 obtain ⟨t, rfl, h₁⟩ := h₁
 refine PySem.evalPart_none_step (PySem.evalPart_some_step (wpAny_Constant_int ?_))
 refine ⟨"", t, none, some (n, _), rfl, rfl, rfl, ?_⟩
 unfold sliceMade
 rw [hp]
 exact h₁ _ _ rfl
noncomputable def CutL (Q : Value → Shared → Prop) (lo hi : Option Int) (o : Value) (s : Shared) : Prop := ∃ l items, o = .ref l ∧ s.heap.IsList l items ∧ items.size ≤ sizeLine ∧ ∀ o' k, o'.isFreed = false → Q (.ref (s.heap.objs.size + 1)) { s with heap := (s.heap.push o').push { cls := .type "list", data := .seq (slicePick items lo hi none) }, toks := k }
theorem cutL {lo hi : Option Int} {l : Addr} {vs us : List Value} {Q : Value → Shared → Prop} (f : Fm h₀ F₀ W mu F h) (hl : At mu F l (lst vs)) (hz : vs.length ≤ 1000) (e : slicePick vs.toArray lo hi none = us.toArray) (q : ∀ D F' h' tk', Fm h₀ F₀ W mu F' h' → Le F F' → F' D = some (lst us) → Q (.ref D) ⟨h', g, d, tk', os⟩) : CutL Q lo hi (.ref l) ⟨h, g, d, tk, os⟩ := by
 refine ⟨l, vs.toArray, rfl, lst_list (hl.has f), by rw [sizeLine_eq]; simp; k_extra "om", fun o' k hf => ?_⟩
 have f1 : Fm h₀ F₀ W mu F (h.push o') := f.call0 (Ext.push0 f.ext.fz)
 have f2 := f1.pushF (c := lst us) (o := { cls := .type "list", data := .seq (slicePick vs.toArray lo hi none) }) ⟨0, by rw [e]⟩ rfl
 have l2 := Fz.le_set f1.none_new (c := lst us)
 rw [Heap.size_push] at f2 l2
 exact q _ _ _ _ f2 l2 Fz.set_self
theorem r_sliceL2 {value : Expr} {n m : Int} {k k' : Nat} {p p' p'' pos : Pos} {Q : Value → Shared → Prop} (q : wpAny (model prog w) A (eval value env) (CutL Q (some n) (some m)) E s)
  (ht : ∀ o r, letTemporaryGo value o r = pure ()) : wpAny (model prog w) A (eval (.Subscript value (.Slice (some (.Constant (.int n) k p')) (some (.Constant (.int m) k' p'')) none p) pos) env) Q E s := by
 refine wpAny_Subscript_list_slice (wpAny_mono q (fun o s₁ h₁ => ?_) fun _ _ e => e) ht
 obtain ⟨l, items, rfl, hl, hz, h₁⟩ := h₁
 exact PySem.evalPart_some_step (wpAny_Constant_int (PySem.evalPart_some_step (wpAny_Constant_int ⟨l, items, some n, some m, rfl, hl, hz, .int _ _, .int _ _, h₁ _ _ rfl⟩)))
theorem r_sliceL1 {value : Expr} {m : Int} {k' : Nat} {p p'' pos : Pos} {Q : Value → Shared → Prop} (q : wpAny (model prog w) A (eval value env) (CutL Q none (some m)) E s)
  (ht : ∀ o r, letTemporaryGo value o r = pure ()) : wpAny (model prog w) A (eval (.Subscript value (.Slice none (some (.Constant (.int m) k' p'')) none p) pos) env) Q E s := by
 refine wpAny_Subscript_list_slice (wpAny_mono q (fun o s₁ h₁ => ?_) fun _ _ e => e) ht
 obtain ⟨l, items, rfl, hl, hz, h₁⟩ := h₁
 exact PySem.evalPart_none_step (PySem.evalPart_some_step (wpAny_Constant_int ⟨l, items, none, some m, rfl, hl, hz, .none, .int _ _, h₁ _ _ rfl⟩))
theorem c_chain {l r₁ r₂ : Expr} {op₁ op₂ : CmpOp} {pos : Pos} {Q : Value → Shared → Prop} (q : wpAny (model prog w) A (eval l env) (fun a s₁ => wpAny (model prog w) A (eval r₁ env) (fun b s₂ => wpAny (model prog w) A (compareOp op₁ a b) (fun c s₃ => wpAny (model prog w) A (truthy c) (fun t s₄ => if t = true then wpAny (model prog w) A (eval r₂ env) (fun e s₅ => wpAny (model prog w) A (compareOp op₂ b e) Q E s₅) E s₄ else Q c s₄) E s₃) E s₂) E s₁) E s)
  (hm : lastMarks [op₁, op₂] [r₁, r₂] = false) : wpAny (model prog w) A (eval (.Compare l [op₁, op₂] [r₁, r₂] pos) env) Q E s :=
 Compare_chain (wpAny_mono q (fun a s₁ h₁ => chain_link (wpAny_mono h₁ (fun b s₂ h₂ => wpAny_mono h₂ (fun c s₃ h₃ => wpAny_mono h₃ (fun t s₄ h₄ => by
  cases t with
  | false => rw [if_neg (by decide)] at h₄ ⊢; exact h₄
  | true => rw [if_pos rfl] at h₄ ⊢; exact chain_last h₄) fun _ _ e => e) fun _ _ e => e) fun _ _ e => e)) fun _ _ e => e) hm
theorem t_chain {l r₁ r₂ : Expr} {op₁ op₂ : CmpOp} {pos : Pos} {whole : Sem Value} {Q : Bool → Shared → Prop} (q : wpAny (model prog w) A (eval l env) (fun a s₁ => wpAny (model prog w) A (eval r₁ env) (fun b s₂ => wpAny (model prog w) A (compareOp op₁ a b) (fun c s₃ => wpAny (model prog w) A (truthy c) (fun t s₄ => if t = true then wpAny (model prog w) A (eval r₂ env) (fun e s₅ => wpAny (model prog w) A (compareOp op₂ b e) (fun c s₆ => wpAny (model prog w) A (truthy c) Q E s₆) E s₅) E s₄ else Q false s₄) E s₃) E s₂) E s₁) E s)
  (hm : lastMarks [op₁, op₂] [r₁, r₂] = false) : wpAny (model prog w) A (isTrue (.Compare l [op₁, op₂] [r₁, r₂] pos) env whole) Q E s :=
 isTrue_chain (wpAny_mono q (fun a s₁ h₁ => test_link (wpAny_mono h₁ (fun b s₂ h₂ => wpAny_mono h₂ (fun c s₃ h₃ => wpAny_mono h₃ (fun t s₄ h₄ => by
  cases t with
  | false => rw [if_neg (by decide)] at h₄ ⊢; exact h₄
  | true => rw [if_pos rfl] at h₄ ⊢; exact test_last h₄) fun _ _ e => e) fun _ _ e => e) fun _ _ e => e)) fun _ _ e => e) hm
theorem v_and {e₁ e₂ : Expr} {rest : List Expr} {pos : Pos} {Q : Value → Shared → Prop} (q : wpAny (model prog w) A (eval e₁ env) (fun v s₁ => wpAny (model prog w) A (truthy v) (fun c s₂ => if c = true then wpAny (model prog w) A (eval (.BoolOp .And (e₂ :: rest) pos) env) Q E s₂ else Q v s₂) E s₁) E s) : wpAny (model prog w) A (eval (.BoolOp .And (e₁ :: e₂ :: rest) pos) env) Q E s := BoolOp_and q
theorem v_or {e₁ e₂ : Expr} {rest : List Expr} {pos : Pos} {Q : Value → Shared → Prop} (q : wpAny (model prog w) A (eval e₁ env) (fun v s₁ => wpAny (model prog w) A (truthy v) (fun c s₂ => if c = true then Q v s₂ else wpAny (model prog w) A (eval (.BoolOp .Or (e₂ :: rest) pos) env) Q E s₂) E s₁) E s) : wpAny (model prog w) A (eval (.BoolOp .Or (e₁ :: e₂ :: rest) pos) env) Q E s := BoolOp_or q
theorem v_one {op : BoolOp} {e : Expr} {pos : Pos} {Q : Value → Shared → Prop} (q : wpAny (model prog w) A (eval e env) Q E s) : wpAny (model prog w) A (eval (.BoolOp op [e] pos) env) Q E s := BoolOp_one q
theorem k_inT {x : Str} {t : Tok} {a : Addr} {vs : List Value} {n : Nat} {Q : Value → Shared → Prop} (f : Fm h₀ F₀ W mu F h) (k : K.lookup a = some ⟨.type "tuple", none, .seq vs.toArray n, #[]⟩) (hs : Ss vs) (b : Bool) (hb : vs.any (isS x) = b) (q : Q (.bool b) ⟨h, g, d, tk, os⟩) : wpAny (model prog w) A (compareOp .In (.str x t) (.ref a)) Q E ⟨h, g, d, tk, os⟩ :=
 SeqRoads2.in_tuple (isS x) (eq_isS x t hs) ((f.kin) _ _ k) (by rw [← Array.any_toList]; show Q (.bool (vs.any (isS x))) _; rw [hb]; exact q)
theorem k_itemT {value slice : Expr} {l : Addr} {vs : List Value} {n : Nat} {k : Int} {u : Tok} {x : Value} {Q : Value → Shared → Prop} (f : Fm h₀ F₀ W mu F h) (kk : K.lookup l = some ⟨.type "tuple", none, .seq vs.toArray n, #[]⟩) (h0 : 0 ≤ k) (hk : k < 2 ^ 63) (hx : vs[k.toNat]? = some x) (q : Q x ⟨h, g, d, tk, os⟩)
  (hs : subscripted slice false (.ref l) (.int k u) = operate [.ref l, .int k u] (getItem (.ref l) (.int k u))) : wpAny (model prog w) A (subscriptTail value slice (.ref l) (.int k u)) Q E ⟨h, g, d, tk, os⟩ := by
 have e : k.toNat < vs.length := (List.getElem?_eq_some_iff.mp hx).1
 have it : IsTup h l vs.toArray := tup_tup ⟨_, (f.kin) _ _ kk, n, rfl⟩
 exact PyProof.Rows.tail_any it.typeIs slot_tuple_getitem.lookup (PyProof.Rows.getItem_tuple (j := k.toNat) it (by k_extra "om") hk (seq_at h0 (by simpa using e)) (by simpa using hx) q) hs
noncomputable def TxtTab (prog : Program) (w : World) (es : Array DictEntry) : Prop := ∀ e ∈ es.toList, ∃ k, (PySem.strKind prog w).is k e.key = true ∧ e.hash = (PySem.strKind prog w).hash k
theorem k_map {a : Addr} {es : Array DictEntry} {n : Nat} (f : Fm h₀ F₀ W mu F h) (kk : K.lookup a = some ⟨.type "dict", none, .dict es n, #[]⟩) (T : TxtTab prog w es) : h.MapOf (PySem.strKind prog w) a (fun k => findBy (PySem.strKind prog w).is es k) :=
 ⟨_, es, n, (f.kin) _ _ kk, ⟨rfl, rfl, rfl⟩, rfl, fun e he => T e (by simpa using he), fun _ => rfl⟩
theorem k_inD {a : Addr} {es : Array DictEntry} {n : Nat} {x : Str} {t : Tok} {Q : Value → Shared → Prop} (f : Fm h₀ F₀ W mu F h) (kk : K.lookup a = some ⟨.type "dict", none, .dict es n, #[]⟩) (T : TxtTab prog w es) (ns : (a == sysModules) = false) (b : Bool) (hb : (findBy (PySem.strKind prog w).is es x).isSome = b) (q : ∀ tk', Q (.bool b) ⟨h, g, d, tk', os⟩) :
  wpAny (model prog w) A (compareOp .In (.str x t) (.ref a)) Q E ⟨h, g, d, tk, os⟩ := wpAny_in_of (strKind_is _ _ _ _) ns (k_map f kk T) (by rw [hb]; exact q _)
theorem k_itemD {value slice : Expr} {a : Addr} {es : Array DictEntry} {n : Nat} {x : Str} {t : Tok} {v : Value} {Q : Value → Shared → Prop} (f : Fm h₀ F₀ W mu F h) (kk : K.lookup a = some ⟨.type "dict", none, .dict es n, #[]⟩) (T : TxtTab prog w es) (hv : findBy (PySem.strKind prog w).is es x = some v) (q : ∀ tk', Q v ⟨h, g, d, tk', os⟩)
  (hs : subscripted slice false (.ref a) (.str x t) = operate [.ref a, .str x t] (getItem (.ref a) (.str x t))) : wpAny (model prog w) A (subscriptTail value slice (.ref a) (.str x t)) Q E ⟨h, g, d, tk, os⟩ := by
 have m := k_map f kk T
 have tI : (⟨h, g, d, tk, os⟩ : Shared).TypeIs (.ref a) "dict" := m.typeIs
 exact PyProof.Rows.tail_any tI slot_dict_getitem.lookup (wpAny_getItem_of (strKind_is _ _ _ _) m hv (q _)) hs
inductive CStN (h₀ : Heap) (F₀ : Fz) (W : List Addr) (C : Addr) (fr : Option Value → Cell) (D I : Addr) (c : Nat → Cell) (p : Addr × Cell) (n : Nat) (F : Fz) (J : Nat → Mu → Fz → Prop) (k : Nat) (s : Shared) : Prop
  | mk (i : Nat) (hi : i ≤ n) (ek : k = n - i) (xo : Option Value) (mu : Mu) (F' : Fz) (h : Heap) (tk : Nat) (e : s = ⟨h, g, d, tk, os⟩) (f : Fm h₀ F₀ W ((C, fr xo) :: (D, lst []) :: (I, c i) :: p :: mu) F' h) (le : Le F F') (j : J i mu F') : CStN h₀ F₀ W C fr D I c p n F J k s
theorem comp_goN {elt iter tst : Expr} {x : Str} {px : Pos} {scope : Scope} {pos : Pos} {cl : List (Str × Addr)} {I : Addr} {n : Nat} {P : Nat → Value → Prop} {c : Nat → Cell} {Q : Value → Shared → Prop} (J : Nat → Mu → Fz → Prop)
  (S : Src prog w A F I n P c) (f : Fm h₀ F₀ W ((env.locals, frm env ls) :: (I, c 0) :: mu) F h) (hI : Own h₀ W I) (j0 : J 0 mu F)
  (hcell : (scope.names.all fun y => y.2 != .cell) = true) (hk : scope.kind = .function) (hx : scope.names.lookup x = some .local)
  (turn : ∀ C i v mu' F' h' tk', i < n → P i v → J i mu' F' → Le F F' → CompOk scope cl env (compE scope cl C env) →
   (∀ D, Fm h₀ F₀ W (((compE scope cl C env).locals, frm (compE scope cl C env) [(x, some v)]) :: (D, lst []) :: (I, c (i + 1)) :: (env.locals, frm env ls) :: mu') F' h' →
   wpAny (model prog w) A (isTrue tst (compE scope cl C env) (eval tst (compE scope cl C env))) (fun y s₃ => y = false ∧ Cv h₀ F₀ W ((compE scope cl C env).locals, frm (compE scope cl C env) [(x, some v)]) (D, lst []) (I, c (i + 1)) (env.locals, frm env ls) F (J (i + 1)) s₃) E ⟨h', g, d, tk', os⟩))
  (done : ∀ D mu' F' F'' h' tk', J n mu' F' → Le F F' → Le F' F'' → F'' D = some (lst []) → Fm h₀ F₀ W ((env.locals, frm env ls) :: mu') F'' h' → Q (.ref D) ⟨h', g, d, tk', os⟩) :
  CompGo (model prog w) A E env (.ListComp elt [⟨.Name x px, iter, [tst], 0⟩] scope pos) scope cl none Q (.ref I) ⟨h, g, d, tk, os⟩ := by
 have hcell' : ∀ y ∈ scope.names, y.2 ≠ .cell := fun y hy q => by
  have := List.all_eq_true.mp hcell y hy
  rw [q] at this; simp at this
 refine wpAny_newObj_type (wpAny_compEnv ?_)
 obtain ⟨f1, o1⟩ := f.pushN (c := lst []) (o := { cls := .type "list", data := .seq ([] : List Value).toArray }) ⟨0, rfl⟩ rfl
 generalize hD : h.objs.size = D at *
 generalize hh1 : h.push { cls := .type "list", data := .seq ([] : List Value).toArray } = h1 at *
 dsimp only at *
 rw [cellsFrom_free hcell', pushCells_free hcell']
 have oo : ∀ (y : Heap), y = h1.push { cls := .type "dict", data := .dict #[] } → Fm h₀ F₀ W ((h1.objs.size, frm (compE scope cl h1.objs.size env) [(x, none)]) :: (D, lst []) :: (I, c 0) :: (env.locals, frm env ls) :: mu) F y ∧ Own h₀ W h1.objs.size := by
  rintro y rfl
  obtain ⟨f2, o2⟩ := f1.pushN (c := frm (compE scope cl h1.objs.size env) [(x, none)]) (o := { cls := .type "dict", data := .dict #[] }) ⟨⟨by simp, #[], 0, rfl, fun e he => by simp at he, fun y => by
    unfold look; rw [List.lookup_cons]; cases (y == x) <;> rfl⟩, fun p hp => by
    rcases List.mem_cons.mp hp with rfl | hp
    ·exact lookup_relabel (by decide) hx
    ·cases hp⟩ rfl
  exact ⟨f2.perm (List.perm_middle (l₁ := [(_, _), (_, _), (_, _)])).symm, o2⟩
 obtain ⟨f2, o2⟩ := oo _ rfl
 generalize hC : h1.objs.size = C at *
 generalize h1.push { cls := .type "dict", data := .dict #[] } = h2 at *
 clear oo f1
 have loop : codeAny (model prog w) A (.compLoop (.ListComp elt [⟨.Name x px, iter, [tst], 0⟩] scope pos) 0 (.ref I) (.ref D) (compE scope cl C env))
   (compPost (model prog w) A E none Q (.ref D) C) ⟨h2, g, d, tk, os⟩ := by
  refine codeAny_compLoop_tests (CStN h₀ F₀ W C (fun xo => frm (compE scope cl C env) [(x, xo)]) D I c (env.locals, frm env ls) n F J) ?_ n
   ⟨0, Nat.zero_le _, rfl, none, mu, F, h2, tk, rfl, f2, Le.rfl, j0⟩
  rintro k s ⟨i, hi, rfl, xo, mu', F', h', tk', rfl, f', le, j⟩
  have S' := S.mono le
  have hc := (f'.mus.has (I, c i) (.tail _ (.tail _ (.head _)))).1
  rcases Nat.lt_or_ge i n with lt | ge
  ·refine S'.item i _ _ _ lt f'.ext.fz hc fun v h₁ tk₁ hP hc' hk' => ?_
   have f₁ := f'.turn (.tail (.tail .head)) hk' hc'
   have z := (f₁.mus.has _ (.head _)).1
   refine wpAny_assign_Name (wpAny_storeName_local (frm_kind z (x, xo) (.head _)) (dct_ns (frm_dct z)) (fun h₂ nn ss => ?_) (by rw [show (compE scope cl C env).scope.kind = .function from hk]; rfl))
   have f₂ : Fm h₀ F₀ W (((compE scope cl C env).locals, frm (compE scope cl C env) [(x, some v)]) :: (D, lst []) :: (I, c (i + 1)) :: (env.locals, frm env ls) :: mu') F' h₂ := by
    refine f₁.turn .head (fun b o nb eb => (ss.2 b nb).trans eb) ?_
    obtain ⟨o, e1, e2⟩ := ns_dct (fs := [(x, some v)]) nn (by simp) (fun y => by
     have := (Sl.look (fs := [(x, xo)]) (x := x) (v := v) .head (by simp) y).symm; exact this)
    exact ⟨o, e1, e2, fun p hp => by
     rcases List.mem_cons.mp hp with rfl | hp
     ·exact frm_kind z (x, xo) (.head _)
     ·cases hp⟩
   rw [List.forIn_cons, if_pos rfl]
   refine wpAny_bind (wpAny_bind (wpAny_mono (turn C i v mu' F' h₂ _ lt hP j le ⟨rfl, rfl⟩ D f₂) (fun y s₃ h₃ => ?_) fun _ _ z => z.elim))
   obtain ⟨rfl, mu'', F'', h'', tk'', rfl, f₃, le₃, j₃⟩ := h₃
   refine wpAny_pure ?_
   dsimp only
   rw [List.forIn_nil]
   refine wpAny_pure ?_
   rw [if_neg Bool.false_ne_true]
   exact ⟨n - (i + 1), by k_extra "om", i + 1, lt, rfl, some v, mu'', F'', h'', tk'', rfl, f₃, le₃, j₃⟩
  ·have e : i = n := Nat.le_antisymm hi ge
   subst e
   refine S'.done _ _ _ f'.ext.fz hc fun h₁ tk₁ hk' => ?_
   have f₁ := f'.lose (.tail (.tail .head)) hk' hI.h0 hI.nw
   refine ⟨_, dct_ns (frm_dct (f₁.mus.has _ (.head _)).1), fun h'' sb => ?_⟩
   have f₂ := f₁.lose (h' := h'') .head (fun b o nb eb => (sb.2 b nb).trans eb) o2.h0 o2.nw
   exact done D mu' F' _ h'' tk₁ j le (Fz.le_set (f₂.mus.has (D, lst []) (.head _)).2) Fz.set_self (f₂.freeze .head o1.h0 o1.nw)
 exact codeAny_compStart_list loop (S.self _ _ _ f2.ext.fz ((f2.mus.has (I, c 0) (.tail _ (.tail _ (.head _)))).1) loop)
end
end Pg
end
section
open PySem PySem.W PyProof.Rows PySem.Calls
namespace Pg
section
variable {A : Around} {env : Env} {gt : Gt} {h₀ h : Heap} {F₀ F : Fz} {W : List Addr} {mu : Mu} {ls : Fs} {tk : Nat} {s : Shared} {QF : Flow → Shared → Prop}
theorem r_isnoneI {n : Int} {t : Tok} {Q : Value → Shared → Prop} (q : Q (.bool false) s) : wpAny (model prog w) A (compareOp .Is (.int n t) .none) Q E s := wpAny_is_plain rfl q
variable {KT : Type} [DecidableEq KT] {knd : KeyKind prog w KT}
theorem r_itemDv {value slice : Expr} {l : Addr} {kvs : List (KT × Value)} {k : KT} {key x : Value} {Q : Value → Shared → Prop} (f : Fm h₀ F₀ W mu F h) (hl : At mu F l (dic knd kvs)) (hk : knd.is k key = true) (hx : valueAt kvs k = some x) (q : ∀ tk', Q x ⟨h, g, d, tk', os⟩)
  (hs : subscripted slice false (.ref l) key = operate [.ref l, key] (getItem (.ref l) key)) : wpAny (model prog w) A (subscriptTail value slice (.ref l) key) Q E ⟨h, g, d, tk, os⟩ := by
 have m := dic_of (hl.has f)
 have tI : (⟨h, g, d, tk, os⟩ : Shared).TypeIs (.ref l) "dict" := m.typeIs
 exact PyProof.Rows.tail_any tI slot_dict_getitem.lookup (wpAny_getItem_of hk m.mapOf hx (q _)) hs
theorem Fm.grow {us us' nw mu mu' : Mu} {F' : Fz} {h' : Heap} (f : Fm h₀ F₀ W mu F h) (t : Tk us us' mu mu') (x : Ext F h (adr us) F' h') (m : Mus F' h' (us' ++ nw)) (hn : ∀ a ∈ adr nw, h.get? a = none) : Fm h₀ F₀ W (mu' ++ nw) F' h' := by
 have m1 : Mus F' h' us' := ⟨fun p hp => m.has p (List.mem_append_left _ hp), by
  have := m.nd
  rw [adr, List.map_append] at this
  exact (List.nodup_append.mp this).1⟩
 have nd2 : (adr nw).Nodup := by
  have := m.nd
  rw [adr, List.map_append] at this
  exact (List.nodup_append.mp this).2.1
 have f' := f.tk t x m1
 have ea : adr mu' = adr mu := t.ups.1.adr
 have dj : ∀ a ∈ adr nw, a ∉ adr mu := fun a ha q => by
  obtain ⟨p, hp, e⟩ := of_mem_adr q
  exact (f.mus.has p hp).1.ne_none (e ▸ hn a ha)
 refine ⟨f'.ext, ⟨fun p hp => ?_, ?_⟩, fun p hp => ?_, fun a ha => ?_, f'.base⟩
 ·rcases List.mem_append.mp hp with hp | hp
  ·exact f'.mus.has p hp
  ·exact m.has p (List.mem_append_right _ hp)
 ·show ((mu' ++ nw).map (·.1)).Nodup
  rw [List.map_append]
  refine List.nodup_append.mpr ⟨f'.mus.nd, nd2, fun a ha b hb e => ?_⟩
  subst e
  have ha' : a ∈ adr mu' := ha
  rw [ea] at ha'
  exact dj a hb ha'
 ·rcases List.mem_append.mp hp with hp | hp
  ·exact f'.own p hp
  ·exact .inr (f.fresh (hn _ (mem_adr hp)))
 ·show a ∈ (mu' ++ nw).map (·.1)
  rw [List.map_append]
  exact List.mem_append_left _ (f'.tr a ha)
end
class inductive KR (F : Fz) : List (Str × Value) → List (Str × List Str) → Prop
  | nil : KR F [] []
  | cons {k : Str} {T : Addr} {us : List Value} {ws : List Str} {kvs : List (Str × Value)} {tab : List (Str × List Str)} : F T = some (tup us) → (us.length = ws.length ∧ ∀ (i : Nat) (w : Str), ws[i]? = some w → ∃ t, us[i]? = some (Value.str w t)) → KR F kvs tab → KR F ((k, .ref T) :: kvs) ((k, ws) :: tab)
theorem KR.mono {F F' : Fz} (l : Le F F') {kvs : List (Str × Value)} {tab : List (Str × List Str)} (h : KR F kvs tab) : KR F' kvs tab := by
 induction h with
 | nil => exact .nil
 | cons a b _ ih => exact .cons (l _ _ a) b ih
theorem KR.snoc {F : Fz} {kvs : List (Str × Value)} {tab : List (Str × List Str)} (h : KR F kvs tab) {k : Str} {T : Addr} {us : List Value} {ws : List Str} (a : F T = some (tup us)) (b : us.length = ws.length ∧ ∀ (i : Nat) (w : Str), ws[i]? = some w → ∃ t, us[i]? = some (Value.str w t)) : KR F (kvs ++ [(k, .ref T)]) (tab ++ [(k, ws)]) := by
 induction h with
 | nil => exact .cons a b .nil
 | cons a' b' _ ih => exact .cons a' b' ih
theorem KR.len {F : Fz} {kvs : List (Str × Value)} {tab : List (Str × List Str)} (h : KR F kvs tab) : kvs.length = tab.length := by
 induction h with
 | nil => rfl
 | cons _ _ _ ih => rw [List.length_cons, List.length_cons, ih]
theorem KR.any {F : Fz} {kvs : List (Str × Value)} {tab : List (Str × List Str)} (h : KR F kvs tab) (k : Str) : kvs.any (fun kv => kv.1 = k) = tab.any (fun kv => kv.1 == k) := by
 induction h with
 | nil => rfl
 | cons _ _ _ ih =>
  rename_i k' _ _ _ _ _ _ _ _
  rw [List.any_cons, List.any_cons, ih]
  congr 1
theorem KR.no {F : Fz} {kvs : List (Str × Value)} {tab : List (Str × List Str)} (h : KR F kvs tab) {k : Str} (n : tab.lookup k = none) : valueAt kvs k = none := by
 induction h with
 | nil => rfl
 | cons _ _ _ ih =>
  rename_i k' _ _ _ _ _ _ _ _
  rw [List.lookup_cons] at n
  cases q : (k == k') with
  | true => rw [q] at n; cases n
  | false =>
   rw [q] at n
   have := ih n
   unfold valueAt at this ⊢
   rw [List.find?_cons_of_neg (by simpa using fun e => (beq_eq_false_iff_ne.mp q) e.symm)]
   exact this
theorem KR.yes {F : Fz} {kvs : List (Str × Value)} {tab : List (Str × List Str)} (h : KR F kvs tab) {k : Str} {ws : List Str} (n : tab.lookup k = some ws) : ∃ T us, valueAt kvs k = some (.ref T) ∧ F T = some (tup us) ∧ us.length = ws.length ∧ ∀ (i : Nat) (w : Str), ws[i]? = some w → ∃ t, us[i]? = some (Value.str w t) := by
 induction h with
 | nil => cases n
 | cons a b _ ih =>
  rename_i k' T us ws' _ _ _
  rw [List.lookup_cons] at n
  cases q : (k == k') with
  | true =>
   rw [q] at n
   cases n
   refine ⟨T, us, ?_, a, b⟩
   unfold valueAt
   rw [List.find?_cons_of_pos (by simpa using (eq_of_beq q).symm)]
   rfl
  | false =>
   rw [q] at n
   obtain ⟨T', us', e, z⟩ := ih n
   refine ⟨T', us', ?_, z⟩
   unfold valueAt at e ⊢
   rw [List.find?_cons_of_neg (by simpa using fun e => (beq_eq_false_iff_ne.mp q) e.symm)]
   exact e
end Pg
end
section
open PySem PySem.W PyProof.Rows PySem.Calls
namespace Pg
section
variable (A : Around) (env : Env)
noncomputable def Exu (rest : List Stmt) (QF : Flow → Shared → Prop) : Unit → Shared → Prop := fun _ s => wpAny (model prog w) A (execs rest env) QF E s
noncomputable def Sto (x : Str) (rest : List Stmt) (QF : Flow → Shared → Prop) : Value → Shared → Prop := fun v s => wpAny (model prog w) A (storeName env x v) (Exu A env rest QF) E s
noncomputable def SSb3 (v ov : Value) (rest : List Stmt) (QF : Flow → Shared → Prop) : Value → Shared → Prop := fun iv s => wpAny (model prog w) A (setItem ov iv v) (Exu A env rest QF) E s
noncomputable def SSb2 (v : Value) (i : Expr) (rest : List Stmt) (QF : Flow → Shared → Prop) : Value → Shared → Prop := fun ov s => wpAny (model prog w) A (eval i env) (SSb3 A env v ov rest QF) E s
noncomputable def SSb (o i : Expr) (rest : List Stmt) (QF : Flow → Shared → Prop) : Value → Shared → Prop := fun v s => wpAny (model prog w) A (eval o env) (SSb2 A env v i rest QF) E s
noncomputable def SAt2 (v : Value) (x : Str) (rest : List Stmt) (QF : Flow → Shared → Prop) : Value → Shared → Prop := fun ov s => wpAny (model prog w) A (setAttr ov x v) (Exu A env rest QF) E s
noncomputable def SAt (o : Expr) (x : Str) (rest : List Stmt) (QF : Flow → Shared → Prop) : Value → Shared → Prop := fun v s => wpAny (model prog w) A (eval o env) (SAt2 A env v x rest QF) E s
noncomputable def Exs (rest : List Stmt) (QF : Flow → Shared → Prop) : Value → Shared → Prop := fun v s => v = .none ∧ wpAny (model prog w) A (execs rest env) QF E s
noncomputable def IfK (body orelse rest : List Stmt) (QF : Flow → Shared → Prop) : Bool → Shared → Prop := fun b s => if b = true then wpAny (model prog w) A (execs body env) (Nx (model prog w) A env rest QF E) E s else wpAny (model prog w) A (execs orelse env) (Nx (model prog w) A env rest QF E) E s
noncomputable def Unp (tgt : Expr) (rest : List Stmt) (QF : Flow → Shared → Prop) : Value → Shared → Prop := fun v s => wpAny (model prog w) A (assign tgt env v) (Exu A env rest QF) E s
noncomputable def CkF (f : Value) (Q : Value → Shared → Prop) : List Value → Shared → Prop := fun vs s => Ck f (wpAny (model prog w) A (call f vs) Q E s) s
noncomputable def CkM (f a : Value) (Q : Value → Shared → Prop) : List Value → Shared → Prop := fun vs s => Ck f (wpAny (model prog w) A (call f (a :: vs)) Q E s) s
noncomputable def RetF (QF : Flow → Shared → Prop) : Value → Shared → Prop := fun v s => QF (.ret v) s
noncomputable def ConF {α : Type} (v : α) (Q : List α → Shared → Prop) : List α → Shared → Prop := fun vs s => Q (v :: vs) s
noncomputable def ArgF (rest : List Expr) (pos : Pos) (Q : List Value → Shared → Prop) : Value → Shared → Prop := fun v s => wpAny (model prog w) A (spliced (backTo pos (starEach rest env))) (ConF v Q) E s
noncomputable def BinR (op : Operator) (a : Value) (Q : Value → Shared → Prop) : Value → Shared → Prop := fun b s => wpAny (model prog w) A (binaryOp op a b) Q E s
noncomputable def BinL (op : Operator) (r : Expr) (Q : Value → Shared → Prop) : Value → Shared → Prop := fun a s => wpAny (model prog w) A (eval r env) (BinR A op a Q) E s
noncomputable def SubR (value slice : Expr) (o : Value) (Q : Value → Shared → Prop) : Value → Shared → Prop := fun i s => wpAny (model prog w) A (subscriptTail value slice o i) Q E s
noncomputable def SubL (value slice : Expr) (Q : Value → Shared → Prop) : Value → Shared → Prop := fun o s => wpAny (model prog w) A (eval slice env) (SubR A value slice o Q) E s
noncomputable def AttF (x : Str) (Q : Value → Shared → Prop) : Value → Shared → Prop := fun o s => wpAny (model prog w) A (getAttr o x true) Q E s
noncomputable def MthF (x : Str) (pl : Sem Bool) (pos : Pos) (args : List Expr) (Q : Value → Shared → Prop) : Value → Shared → Prop := fun o s => wpAny (model prog w) A (getMethod o x pl) (Mc (model prog w) A env pos args Q E) E s
noncomputable def CmpR (op : CmpOp) (a : Value) (Q : Value → Shared → Prop) : Value → Shared → Prop := fun b s => wpAny (model prog w) A (compareOp op a b) Q E s
noncomputable def CmpL (op : CmpOp) (r : Expr) (Q : Value → Shared → Prop) : Value → Shared → Prop := fun a s => wpAny (model prog w) A (eval r env) (CmpR A op a Q) E s
noncomputable def TruF (Q : Bool → Shared → Prop) : Value → Shared → Prop := fun v s => wpAny (model prog w) A (truthy v) Q E s
noncomputable def ForF (target : Expr) (body rest : List Stmt) (QF : Flow → Shared → Prop) : Value → Shared → Prop := fun x s => wpAny (model prog w) A (pyIter x) (ForGo (model prog w) A env target body rest QF) E s
noncomputable def AndF (rest : List Expr) (Q : Bool → Shared → Prop) : Bool → Shared → Prop := fun b s => if b = true then wpAny (model prog w) A (allTrue .And rest env) Q E s else Q false s
noncomputable def OrF (rest : List Expr) (Q : Bool → Shared → Prop) : Bool → Shared → Prop := fun b s => if b = true then Q true s else wpAny (model prog w) A (allTrue .Or rest env) Q E s
noncomputable def IfeF (body orelse : Expr) (Q : Value → Shared → Prop) : Bool → Shared → Prop := fun b s => if b = true then wpAny (model prog w) A (eval body env) Q E s else wpAny (model prog w) A (eval orelse env) Q E s
end
section
variable {A : Around} {env : Env} {gt : Gt} {h₀ h : Heap} {F₀ F : Fz} {W : List Addr} {mu : Mu} {ls ls' : Fs} {tk : Nat} {s : Shared} {QF : Flow → Shared → Prop}
theorem kx_assign {x : Str} {p' pos : Pos} {value : Expr} {rest : List Stmt} (q : wpAny (model prog w) A (eval value env) (Sto A env x rest QF) E s)
  (hs : swapsWith value (some (.Name x p')) pos.line env = pure false) : wpAny (model prog w) A (execs (.Assign [.Name x p'] value pos :: rest) env) QF E s := x_assign q hs
theorem kx_setsub {o i : Expr} {p' pos : Pos} {value : Expr} {rest : List Stmt} (q : wpAny (model prog w) A (eval value env) (SSb A env o i rest QF) E s)
  (hs : swapsWith value (some (.Subscript o i p')) pos.line env = pure false) : wpAny (model prog w) A (execs (.Assign [.Subscript o i p'] value pos :: rest) env) QF E s := x_setsub q hs
theorem kx_setattr {o : Expr} {x : Str} {p' pos : Pos} {value : Expr} {rest : List Stmt} (q : wpAny (model prog w) A (eval value env) (SAt A env o x rest QF) E s)
  (hs : swapsWith value (some (.Attribute o x p')) pos.line env = pure false) : wpAny (model prog w) A (execs (.Assign [.Attribute o x p'] value pos :: rest) env) QF E s := x_setattr q hs
theorem kx_expr {e : Expr} {pos : Pos} {rest : List Stmt} (ok : EnvOk env gt) (q : wpAny (model prog w) A (eval e env) (Exs A env rest QF) E s)
  (hs : swapsWith e none pos.line env = pure false) : wpAny (model prog w) A (execs (.Expr e pos :: rest) env) QF E s := x_expr ok q hs
theorem kx_if {test : Expr} {body orelse : List Stmt} {pos : Pos} {rest : List Stmt} (q : wpAny (model prog w) A (isTrue test env (eval test env)) (IfK A env body orelse rest QF) E s) :
  wpAny (model prog w) A (execs (.If test body orelse pos :: rest) env) QF E s := x_if q
theorem kx_unpack {elts : List Expr} {k : Nat} {tpos pos : Pos} {value : Expr} {rest : List Stmt} (q : wpAny (model prog w) A (eval value env) (Unp A env (.Tuple elts k tpos) rest QF) E s)
  (hs : swapsWithSole [.Tuple elts k tpos] value pos.line env = pure false) (hw : swappedStores [.Tuple elts k tpos] value env = pure none) : wpAny (model prog w) A (execs (.Assign [.Tuple elts k tpos] value pos :: rest) env) QF E s := x_unpack q hs hw
theorem kx_for {target iter : Expr} {body rest : List Stmt} {pos : Pos} (q : wpAny (model prog w) A (eval iter env) (ForF A env target body rest QF) E s)
  (hs : ∀ x, foldedSetIterable iter env x = pure x) : wpAny (model prog w) A (execs (.For target iter body [] pos :: rest) env) QF E s := x_for q hs
class inductive RetTo : (Flow → Shared → Prop) → (Value → Shared → Prop) → Prop
  | nx {A : Around} {env : Env} {r : List Stmt} {QF : Flow → Shared → Prop} {Q : Value → Shared → Prop} (t : RetTo QF Q) : RetTo (Nx (model prog w) A env r QF E) Q
  | rt {Q : Value → Shared → Prop} : RetTo (Rt Q) Q
  | id {QF : Flow → Shared → Prop} : RetTo QF (RetF QF)
theorem RetTo.go {QF : Flow → Shared → Prop} {Q : Value → Shared → Prop} (r : RetTo QF Q) {v : Value} {s : Shared} (q : Q v s) : QF (.ret v) s := by
 induction r with
 | nx _ ih => exact ih q
 | rt => exact q
 | id => exact q
theorem kx_ret {e : Expr} {pos : Pos} {rest : List Stmt} {Q : Value → Shared → Prop} (r : RetTo QF Q) (q : wpAny (model prog w) A (eval e env) Q E s) : wpAny (model prog w) A (execs (.Return (some e) pos :: rest) env) QF E s :=
 x_ret (wpAny_mono q (fun _ _ z => r.go z) fun _ _ z => z)
theorem kx_ret0 {pos : Pos} {rest : List Stmt} {Q : Value → Shared → Prop} (r : RetTo QF Q) (q : Q .none s) : wpAny (model prog w) A (execs (.Return none pos :: rest) env) QF E s := x_ret0 (r.go q)
theorem ret_go {v : Value} (q : QF (.ret v) s) : RetF QF v s := q
theorem x_nilN {r : List Stmt} (q : wpAny (model prog w) A (execs r env) QF E s) : wpAny (model prog w) A (execs [] env) (Nx (model prog w) A env r QF E) E s := x_nil q
theorem x_nilR {Q : Value → Shared → Prop} (q : Q .none s) : wpAny (model prog w) A (execs [] env) (Rt Q) E s := x_nil q
theorem sto_go {x : Str} {v : Value} {rest : List Stmt} (e : EnvOk env gt) (f : Fm h₀ F₀ W ((env.locals, frm env ls) :: mu) F h) (k : Sl ls x v ls')
  (q : ∀ h' tk', Fm h₀ F₀ W ((env.locals, frm env ls') :: mu) F h' → wpAny (model prog w) A (execs rest env) QF E ⟨h', g, d, tk', os⟩) : Sto A env x rest QF v ⟨h, g, d, tk, os⟩ := r_store e f k q
theorem sto_un {x : Str} {v : Value} {rest : List Stmt} (q : wpAny (model prog w) A (storeName env x v) (Exu A env rest QF) E s) : Sto A env x rest QF v s := q
theorem exu_go {u : Unit} {rest : List Stmt} (q : wpAny (model prog w) A (execs rest env) QF E s) : Exu A env rest QF u s := q
theorem ssb_un {o i : Expr} {v : Value} {rest : List Stmt} (q : wpAny (model prog w) A (eval o env) (SSb2 A env v i rest QF) E s) : SSb A env o i rest QF v s := q
theorem ssb2_un {i : Expr} {v ov : Value} {rest : List Stmt} (q : wpAny (model prog w) A (eval i env) (SSb3 A env v ov rest QF) E s) : SSb2 A env v i rest QF ov s := q
theorem ssb3_un {v ov iv : Value} {rest : List Stmt} (q : wpAny (model prog w) A (setItem ov iv v) (Exu A env rest QF) E s) : SSb3 A env v ov rest QF iv s := q
theorem sat_un {o : Expr} {x : Str} {v : Value} {rest : List Stmt} (q : wpAny (model prog w) A (eval o env) (SAt2 A env v x rest QF) E s) : SAt A env o x rest QF v s := q
theorem sat2_un {x : Str} {v ov : Value} {rest : List Stmt} (q : wpAny (model prog w) A (setAttr ov x v) (Exu A env rest QF) E s) : SAt2 A env v x rest QF ov s := q
theorem exs_go {rest : List Stmt} (q : wpAny (model prog w) A (execs rest env) QF E s) : Exs A env rest QF .none s := ⟨rfl, q⟩
theorem ifk_t {body orelse rest : List Stmt} (q : wpAny (model prog w) A (execs body env) (Nx (model prog w) A env rest QF E) E s) : IfK A env body orelse rest QF true s := (ite_t (R := wpAny (model prog w) A (execs orelse env) (Nx (model prog w) A env rest QF E) E s) rfl q)
theorem ifk_f {body orelse rest : List Stmt} (q : wpAny (model prog w) A (execs orelse env) (Nx (model prog w) A env rest QF E) E s) : IfK A env body orelse rest QF false s := (ite_f (P := wpAny (model prog w) A (execs body env) (Nx (model prog w) A env rest QF E) E s) rfl q)
theorem ifk_f0 {body rest : List Stmt} (q : wpAny (model prog w) A (execs rest env) QF E s) : IfK A env body [] rest QF false s := ifk_f (x_nil q)
theorem ifk_t' {body orelse rest : List Stmt} {b : Bool} (e : b = true) (q : wpAny (model prog w) A (execs body env) (Nx (model prog w) A env rest QF E) E s) : IfK A env body orelse rest QF b s := e ▸ ifk_t q
theorem ifk_f' {body orelse rest : List Stmt} {b : Bool} (e : b = false) (q : wpAny (model prog w) A (execs orelse env) (Nx (model prog w) A env rest QF E) E s) : IfK A env body orelse rest QF b s := e ▸ ifk_f q
theorem ifk_f0' {body rest : List Stmt} {b : Bool} (e : b = false) (q : wpAny (model prog w) A (execs rest env) QF E s) : IfK A env body [] rest QF b s := e ▸ ifk_f0 q
theorem unp_un {tgt : Expr} {v : Value} {rest : List Stmt} (q : wpAny (model prog w) A (assign tgt env v) (Exu A env rest QF) E s) : Unp A env tgt rest QF v s := q
theorem for_un {target : Expr} {body rest : List Stmt} {x : Value} (q : wpAny (model prog w) A (pyIter x) (ForGo (model prog w) A env target body rest QF) E s) : ForF A env target body rest QF x s := q
theorem ckf_go {v : Value} {vs : List Value} {Q : Value → Shared → Prop} (f : Fm h₀ F₀ W mu F h) (q : wpAny (model prog w) A (call v vs) Q E ⟨h, g, d, tk, os⟩) : CkF A v Q vs ⟨h, g, d, tk, os⟩ := ck f q
theorem ckm_go {v a : Value} {vs : List Value} {Q : Value → Shared → Prop} (f : Fm h₀ F₀ W mu F h) (q : wpAny (model prog w) A (call v (a :: vs)) Q E ⟨h, g, d, tk, os⟩) : CkM A v a Q vs ⟨h, g, d, tk, os⟩ := ck f q
theorem con_go {α : Type} {v : α} {vs : List α} {Q : List α → Shared → Prop} (q : Q (v :: vs) s) : ConF v Q vs s := q
theorem arg_go {rest : List Expr} {pos : Pos} {v : Value} {Q : List Value → Shared → Prop} (q : wpAny (model prog w) A (spliced (backTo pos (starEach rest env))) (ConF v Q) E s) : ArgF A env rest pos Q v s := q
theorem arg_last {pos : Pos} {v : Value} {Q : List Value → Shared → Prop} (q : Q [v] s) : ArgF A env [] pos Q v s := a_nil (Q := ConF v Q) q
theorem binl_go {op : Operator} {r : Expr} {a : Value} {Q : Value → Shared → Prop} (q : wpAny (model prog w) A (eval r env) (BinR A op a Q) E s) : BinL A env op r Q a s := q
theorem binr_go {op : Operator} {a b : Value} {Q : Value → Shared → Prop} (q : wpAny (model prog w) A (binaryOp op a b) Q E s) : BinR A op a Q b s := q
theorem subl_go {value slice : Expr} {o : Value} {Q : Value → Shared → Prop} (q : wpAny (model prog w) A (eval slice env) (SubR A value slice o Q) E s) : SubL A env value slice Q o s := q
theorem subr_go {value slice : Expr} {o i : Value} {Q : Value → Shared → Prop} (q : wpAny (model prog w) A (subscriptTail value slice o i) Q E s) : SubR A value slice o Q i s := q
theorem att_go {x : Str} {o : Value} {Q : Value → Shared → Prop} (q : wpAny (model prog w) A (getAttr o x true) Q E s) : AttF A x Q o s := q
theorem mth_go {x : Str} {pl : Sem Bool} {pos : Pos} {args : List Expr} {o : Value} {Q : Value → Shared → Prop} (q : wpAny (model prog w) A (getMethod o x pl) (Mc (model prog w) A env pos args Q E) E s) : MthF A env x pl pos args Q o s := q
theorem cmpl_go {op : CmpOp} {r : Expr} {a : Value} {Q : Value → Shared → Prop} (q : wpAny (model prog w) A (eval r env) (CmpR A op a Q) E s) : CmpL A env op r Q a s := q
theorem cmpr_go {op : CmpOp} {a b : Value} {Q : Value → Shared → Prop} (q : wpAny (model prog w) A (compareOp op a b) Q E s) : CmpR A op a Q b s := q
theorem tru_go {b : Bool} {Q : Bool → Shared → Prop} (q : Q b s) : TruF A Q (.bool b) s := r_truth q
theorem tru_un {v : Value} {Q : Bool → Shared → Prop} (q : wpAny (model prog w) A (truthy v) Q E s) : TruF A Q v s := q
theorem and_t {rest : List Expr} {Q : Bool → Shared → Prop} (q : wpAny (model prog w) A (allTrue .And rest env) Q E s) : AndF A env rest Q true s := (ite_t (R := Q false s) rfl q)
theorem and_f {rest : List Expr} {Q : Bool → Shared → Prop} (q : Q false s) : AndF A env rest Q false s := (ite_f (P := wpAny (model prog w) A (allTrue .And rest env) Q E s) rfl q)
theorem or_t {rest : List Expr} {Q : Bool → Shared → Prop} (q : Q true s) : OrF A env rest Q true s := (ite_t (R := wpAny (model prog w) A (allTrue .Or rest env) Q E s) rfl q)
theorem or_f {rest : List Expr} {Q : Bool → Shared → Prop} (q : wpAny (model prog w) A (allTrue .Or rest env) Q E s) : OrF A env rest Q false s := (ite_f (P := Q true s) rfl q)
theorem ife_t {body orelse : Expr} {Q : Value → Shared → Prop} (q : wpAny (model prog w) A (eval body env) Q E s) : IfeF A env body orelse Q true s := (ite_t (R := wpAny (model prog w) A (eval orelse env) Q E s) rfl q)
theorem ife_f {body orelse : Expr} {Q : Value → Shared → Prop} (q : wpAny (model prog w) A (eval orelse env) Q E s) : IfeF A env body orelse Q false s := (ite_f (P := wpAny (model prog w) A (eval body env) Q E s) rfl q)
theorem and_t' {rest : List Expr} {b : Bool} {Q : Bool → Shared → Prop} (e : b = true) (q : wpAny (model prog w) A (allTrue .And rest env) Q E s) : AndF A env rest Q b s := e ▸ and_t q
theorem and_f' {rest : List Expr} {b : Bool} {Q : Bool → Shared → Prop} (e : b = false) (q : Q false s) : AndF A env rest Q b s := e ▸ and_f q
theorem or_t' {rest : List Expr} {b : Bool} {Q : Bool → Shared → Prop} (e : b = true) (q : Q true s) : OrF A env rest Q b s := e ▸ or_t q
theorem or_f' {rest : List Expr} {b : Bool} {Q : Bool → Shared → Prop} (e : b = false) (q : wpAny (model prog w) A (allTrue .Or rest env) Q E s) : OrF A env rest Q b s := e ▸ or_f q
theorem k_bin {l r : Expr} {op : Operator} {pos : Pos} {Q : Value → Shared → Prop} (q : wpAny (model prog w) A (eval l env) (BinL A env op r Q) E s) : wpAny (model prog w) A (eval (.BinOp l op r pos) env) Q E s := wpAny_BinOp q
theorem k_sub {value slice : Expr} {pos : Pos} {Q : Value → Shared → Prop} (q : wpAny (model prog w) A (eval value env) (SubL A env value slice Q) E s) : wpAny (model prog w) A (eval (.Subscript value slice pos) env) Q E s := r_sub q
theorem k_att {value : Expr} {x : Str} {pos : Pos} {Q : Value → Shared → Prop} (q : wpAny (model prog w) A (eval value env) (AttF A x Q) E s)
  (he : eval (.Attribute value x pos) env = (do
   let o ← eval value env
   standAt pos.atName
   let r ← holding [o] (getAttr o x true)
   letTemporaryGo value o r
   pure r)) : wpAny (model prog w) A (eval (.Attribute value x pos) env) Q E s := r_attrE q he
theorem k_mth {value : Expr} {x : Str} {apos pos : Pos} {args : List Expr} {pl : Sem Bool} {Q : Value → Shared → Prop} (q : wpAny (model prog w) A (eval value env) (MthF A env x pl pos args Q) E s)
  (he : eval (.Call (.Attribute value x apos) args [] pos) env = (do
   let ov ← eval value env
   standAt apos.atName
   let (f, first) ← holding [ov] (getMethod ov x pl)
   callWith pos f first (backTo pos (starEach args env)) [])) : wpAny (model prog w) A (eval (.Call (.Attribute value x apos) args [] pos) env) Q E s := r_methP q he
theorem k_cmp {l r : Expr} {op : CmpOp} {pos : Pos} {Q : Value → Shared → Prop} (q : wpAny (model prog w) A (eval l env) (CmpL A env op r Q) E s) (hm : behindInMarks op r = false) : wpAny (model prog w) A (eval (.Compare l [op] [r] pos) env) Q E s := wpAny_Compare1 q hm
theorem k_tcmp {l r : Expr} {op : CmpOp} {pos : Pos} {whole : Sem Value} {Q : Bool → Shared → Prop} (q : wpAny (model prog w) A (eval l env) (CmpL A env op r (TruF A Q)) E s) (hm : behindInMarks op r = false) : wpAny (model prog w) A (isTrue (.Compare l [op] [r] pos) env whole) Q E s := wpAny_isTrue_Compare1 q hm
theorem k_tval {e : Expr} {whole : Sem Value} {Q : Bool → Shared → Prop} (q : wpAny (model prog w) A whole (TruF A Q) E s) (he : isTrue e env whole = (do let v ← whole; standAt e.pos; holding [v] (truthy v))) : wpAny (model prog w) A (isTrue e env whole) Q E s := wpAny_isTrue_value q he
theorem k_and {x : Expr} {rest : List Expr} {Q : Bool → Shared → Prop} (q : wpAny (model prog w) A (isTrue x env (eval x env)) (AndF A env rest Q) E s) : wpAny (model prog w) A (allTrue .And (x :: rest) env) Q E s := t_and q
theorem k_or {x : Expr} {rest : List Expr} {Q : Bool → Shared → Prop} (q : wpAny (model prog w) A (isTrue x env (eval x env)) (OrF A env rest Q) E s) : wpAny (model prog w) A (allTrue .Or (x :: rest) env) Q E s := t_or q
theorem k_ife {test body orelse : Expr} {pos : Pos} {Q : Value → Shared → Prop} (q : wpAny (model prog w) A (isTrue test env (eval test env)) (IfeF A env body orelse Q) E s) : wpAny (model prog w) A (eval (.IfExp test body orelse pos) env) Q E s := r_if q
theorem k_arg {e : Expr} {rest : List Expr} {pos : Pos} {Q : List Value → Shared → Prop} (q : wpAny (model prog w) A (eval e env) (ArgF A env rest pos Q) E s)
  (he : starEach (e :: rest) env = (false, eval e env) :: starEach rest env) : wpAny (model prog w) A (spliced (backTo pos (starEach (e :: rest) env))) Q E s := a_cons q he
theorem k_list {elts : List Expr} {pos : Pos} {Q : Value → Shared → Prop} (q : wpAny (model prog w) A (spliced (backTo pos (starEach elts env))) (MkL Q) E s) : wpAny (model prog w) A (eval (.List elts pos) env) Q E s := r_list q
theorem k_tup {elts : List Expr} {k : Nat} {pos : Pos} {Q : Value → Shared → Prop} (q : wpAny (model prog w) A (spliced (backTo pos (starEach elts env))) (MkT Q) E s) : wpAny (model prog w) A (eval (.Tuple elts k pos) env) Q E s := r_tuple q
theorem kr_call {x : Str} {p pos : Pos} {e : Expr} {rest : List Expr} {f : Value} {Q : Value → Shared → Prop} (ok : EnvOk env gt) (fm : Fm h₀ F₀ W mu F h) (kx : Gk gt x f) (k : Kp f)
  (q : wpAny (model prog w) A (spliced (backTo pos (starEach (e :: rest) env))) (CkF A f Q) E ⟨h, g, d, tk, os⟩)
  (he : starEach (e :: rest) env = (false, eval e env) :: starEach rest env) (hplain : (backTo pos (starEach rest env)).any (·.1) = false) :
  wpAny (model prog w) A (eval (.Call (.Name x p) (e :: rest) [] pos) env) Q E ⟨h, g, d, tk, os⟩ := r_call ok fm kx k q he hplain
theorem kmc_1 {f a : Value} {e : Expr} {rest : List Expr} {pos : Pos} {Q : Value → Shared → Prop} (ok : EnvOk env gt) (k : Kp f) (q : wpAny (model prog w) A (spliced (backTo pos (starEach (e :: rest) env))) (CkM A f a Q) E s)
  (he : starEach (e :: rest) env = (false, eval e env) :: starEach rest env) (hplain : (backTo pos (starEach rest env)).any (·.1) = false) :
  Mc (model prog w) A env pos (e :: rest) Q E (f, [a]) s := mc_1 ok k q he hplain
theorem kmc_0 {f a : Value} {pos : Pos} {Q : Value → Shared → Prop} (ok : EnvOk env gt) (fm : Fm h₀ F₀ W mu F h) (k : Kp f) (q : wpAny (model prog w) A (call f [a]) Q E ⟨h, g, d, tk, os⟩) : Mc (model prog w) A env pos [] Q E (f, [a]) ⟨h, g, d, tk, os⟩ := mc_0 ok k (ck fm q)
end
end Pg
end
section
open PySem PySem.W PyProof.Rows PySem.Calls
namespace Pg
inductive SV where
  | v (x : Value)
  | int (n : Int)
  | str (s : Str)
noncomputable def SV.has : SV → Value → Prop
  | .v x, y => y = x
  | .int n, y => ∃ t, y = .int n t
  | .str s, y => ∃ t, y = .str s t
inductive IntV : SV → Int → Prop
  | i {n : Int} : IntV (.int n) n
  | v {n : Int} {t : Tok} : IntV (.v (.int n t)) n
inductive StrV' : SV → Str → Prop
  | i {s : Str} : StrV' (.str s) s
  | v {s : Str} {t : Tok} : StrV' (.v (.str s t)) s
theorem IntV.of {a : SV} {n : Int} (h : IntV a n) {y : Value} (k : a.has y) : ∃ t, y = .int n t := by
 cases h with
 | i => exact k
 | v => exact ⟨_, k⟩
theorem StrV'.of {a : SV} {s : Str} (h : StrV' a s) {y : Value} (k : a.has y) : ∃ t, y = .str s t := by
 cases h with
 | i => exact k
 | v => exact ⟨_, k⟩
inductive Cmp : CmpOp → Int → Int → Bool → Prop
  | lt {a b : Int} : Cmp .Lt a b (decide (a < b))
  | gt {a b : Int} : Cmp .Gt a b (decide (b < a))
  | le {a b : Int} : Cmp .LtE a b (decide (a ≤ b))
  | eq {a b : Int} : Cmp .Eq a b (a == b)
  | ne {a b : Int} : Cmp .NotEq a b (a != b)
inductive CmpV : CmpOp → SV → SV → Bool → Prop
  | n {o : CmpOp} {x y : SV} {a b : Int} {c : Bool} (m : IntV x a) (n : IntV y b) (k : Cmp o a b c) : CmpV o x y c
  | eq {x y : SV} {a b : Str} {c : Bool} (m : StrV' x a) (n : StrV' y b) (k : (a == b) = c) : CmpV .Eq x y c
  | ne {x y : SV} {a b : Str} {c : Bool} (m : StrV' x a) (n : StrV' y b) (k : (a == b) = c) : CmpV .NotEq x y (!c)
inductive ItV (M : Mu) (F : Fz) (i : Expr) (l : Addr) : SV → Value → Prop
  | lst {vs : List Value} {b : SV} {k : Int} {x : Value} (n : IntV b k) (hl : At M F l (lst vs)) (h0 : 0 ≤ k) (hk : k < 2 ^ 63) (hx : vs[k.toNat]? = some x)
      (hs : ∀ u, subscripted i false (.ref l) (.int k u) = operate [.ref l, .int k u] (getItem (.ref l) (.int k u))) : ItV M F i l b x
  | tup {vs : List Value} {b : SV} {k : Int} {x : Value} (n : IntV b k) (hl : At M F l (tup vs)) (h0 : 0 ≤ k) (hk : k < 2 ^ 63) (hx : vs[k.toNat]? = some x)
      (hs : ∀ u, subscripted i false (.ref l) (.int k u) = operate [.ref l, .int k u] (getItem (.ref l) (.int k u))) : ItV M F i l b x
  | lsi {vs : List Value} {b : SV} {k : Int} {x : Value} (n : IntV b k) (hl : At M F l (lsi vs)) (h0 : 0 ≤ k) (hk : k < 2 ^ 63) (hx : vs[k.toNat]? = some x)
      (hs : ∀ u, subscripted i false (.ref l) (.int k u) = operate [.ref l, .int k u] (getItem (.ref l) (.int k u))) : ItV M F i l b x
  | dic {kvs : List (Str × Value)} {b : SV} {k : Str} {x : Value} (n : StrV' b k) (hl : At M F l (dic (strKind prog w) kvs)) (hx : Ld kvs k x)
      (hs : ∀ u, subscripted i false (.ref l) (.str k u) = operate [.ref l, .str k u] (getItem (.ref l) (.str k u))) : ItV M F i l b x
class inductive Ev (gt : Gt) (ls : Fs) (M : Mu) (F : Fz) : Expr → SV → Prop
  | loc {x : Str} {p : Pos} {v : Value} (k : Lk ls x v) (hd : (x == ("__debug__" : Str)) = false) : Ev gt ls M F (.Name x p) (.v v)
  | glo {x : Str} {p : Pos} {v : Value} (k : Gk gt x v) : Ev gt ls M F (.Name x p) (.v v)
  | int {i : Int} {k : Nat} {p : Pos} : Ev gt ls M F (.Constant (.int i) k p) (.int i)
  | str {s : Str} {k : Nat} {p : Pos} : Ev gt ls M F (.Constant (.str s) k p) (.str s)
  | none {k : Nat} {p : Pos} : Ev gt ls M F (.Constant .none k p) (.v .none)
  | bool {b : Bool} {k : Nat} {p : Pos} : Ev gt ls M F (.Constant (.bool b) k p) (.v (.bool b))
  | attr {e : Expr} {x : Str} {p : Pos} {a C da : Addr} {fs : Fs} {v : Value} (o : Ev gt ls M F e (.v (.ref a))) (ha : F a = some (Raw (instObj C da))) (hd : At M F da (idc fs)) (okk : FldOk C x) (k : Lk fs x v) (hv : handedIn v = true)
      (he : ∀ env, eval (.Attribute e x p) env = (do
        let o ← eval e env
        standAt p.atName
        let r ← holding [o] (getAttr o x true)
        letTemporaryGo e o r
        pure r)) : Ev gt ls M F (.Attribute e x p) (.v v)
  | item {e i : Expr} {p : Pos} {l : Addr} {b : SV} {x : Value} (o : Ev gt ls M F e (.v (.ref l))) (j : Ev gt ls M F i b) (k : ItV M F i l b x) : Ev gt ls M F (.Subscript e i p) (.v x)
  | add {l r : Expr} {p : Pos} {x y : SV} {a b : Int} (i : Ev gt ls M F l x) (j : Ev gt ls M F r y) (m : IntV x a) (n : IntV y b) : Ev gt ls M F (.BinOp l .Add r p) (.int (a + b))
  | sub {l r : Expr} {p : Pos} {x y : SV} {a b : Int} (i : Ev gt ls M F l x) (j : Ev gt ls M F r y) (m : IntV x a) (n : IntV y b) : Ev gt ls M F (.BinOp l .Sub r p) (.int (a - b))
  | cmp {l r : Expr} {p : Pos} {o : CmpOp} {x y : SV} {c : Bool} (i : Ev gt ls M F l x) (j : Ev gt ls M F r y) (k : CmpV o x y c) (hm : behindInMarks o r = false) : Ev gt ls M F (.Compare l [o] [r] p) (.v (.bool c))
section
variable {A : Around} {env : Env} {gt : Gt} {h₀ h : Heap} {F₀ F : Fz} {W : List Addr} {mu : Mu} {ls : Fs} {tk : Nat} {s : Shared} {QF : Flow → Shared → Prop}
theorem cmp_ok {o : CmpOp} {x y : SV} {c : Bool} {u v : Value} {Q : Value → Shared → Prop} (k : CmpV o x y c) (hu : x.has u) (hv : y.has v) (q : Q (.bool c) ⟨h, g, d, tk, os⟩) : wpAny (model prog w) A (compareOp o u v) Q E ⟨h, g, d, tk, os⟩ := by
 cases k with
 | n m n k =>
  obtain ⟨t, rfl⟩ := m.of hu
  obtain ⟨t', rfl⟩ := n.of hv
  cases k with
  | lt => exact r_lt q
  | gt => exact r_gt q
  | le => exact r_le q
  | eq => exact r_eq q
  | ne => exact r_ne q
 | eq m n k =>
  obtain ⟨t, rfl⟩ := m.of hu
  obtain ⟨t', rfl⟩ := n.of hv
  exact r_eqs _ k q
 | ne m n k =>
  obtain ⟨t, rfl⟩ := m.of hu
  obtain ⟨t', rfl⟩ := n.of hv
  exact r_nes _ k q
theorem it_ok {M : Mu} {e i : Expr} {l : Addr} {b : SV} {x u : Value} {Q : Value → Shared → Prop} (f : Fm h₀ F₀ W M F h) (k : ItV M F i l b x) (hu : b.has u) (q : ∀ tk', Q x ⟨h, g, d, tk', os⟩) : wpAny (model prog w) A (subscriptTail e i (.ref l) u) Q E ⟨h, g, d, tk, os⟩ := by
 cases k with
 | lst n hl h0 hk hx hs => obtain ⟨t, rfl⟩ := n.of hu; exact r_item f hl h0 hk hx (q _) (hs t)
 | tup n hl h0 hk hx hs => obtain ⟨t, rfl⟩ := n.of hu; exact r_itemT f hl h0 hk hx (q _) (hs t)
 | lsi n hl h0 hk hx hs => obtain ⟨t, rfl⟩ := n.of hu; exact r_itemS f hl h0 hk hx (q _) (hs t)
 | dic n hl hx hs => obtain ⟨t, rfl⟩ := n.of hu; exact r_itemD (knd := strKind prog w) f hl (strKind_is _ _ _ _) hx q (hs t)
theorem ev_ok {e : Expr} {a : SV} (ok : EnvOk env gt) (f : Fm h₀ F₀ W ((env.locals, frm env ls) :: mu) F h) (i : Ev gt ls ((env.locals, frm env ls) :: mu) F e a) :
  ∀ {Q : Value → Shared → Prop} {tk : Nat}, (∀ y, a.has y → ∀ tk', Q y ⟨h, g, d, tk', os⟩) → wpAny (model prog w) A (eval e env) Q E ⟨h, g, d, tk, os⟩ := by
 induction i with
 | loc k hd => intro Q tk q; exact r_loc ok f k hd (q _ rfl _)
 | glo k => intro Q tk q; exact r_glo ok f k (q _ rfl _)
 | int => intro Q tk q; exact r_int fun t tk' => q _ ⟨t, rfl⟩ _
 | str => intro Q tk q; exact r_str fun t tk' => q _ ⟨t, rfl⟩ _
 | none => intro Q tk q; exact r_none (q _ rfl _)
 | bool => intro Q tk q; exact r_bool (q _ rfl _)
 | attr o ha hd okk k hv he ih => intro Q tk q; exact r_attrE (ih fun y hy tk' => by cases hy; exact r_attr f ha hd okk k hv fun tk'' => q _ rfl _) (he env)
 | item o j k ih1 ih2 => intro Q tk q; exact r_sub (ih1 fun y hy tk' => by cases hy; exact ih2 fun z hz tk'' => it_ok f k hz fun tk3 => q _ rfl _)
 | add i j m n ih1 ih2 => intro Q tk q; exact wpAny_BinOp (ih1 fun y hy tk' => by obtain ⟨t, rfl⟩ := m.of hy; exact ih2 fun z hz tk'' => by obtain ⟨u, rfl⟩ := n.of hz; exact r_add fun t' tk3 => q _ ⟨t', rfl⟩ _)
 | sub i j m n ih1 ih2 => intro Q tk q; exact wpAny_BinOp (ih1 fun y hy tk' => by obtain ⟨t, rfl⟩ := m.of hy; exact ih2 fun z hz tk'' => by obtain ⟨u, rfl⟩ := n.of hz; exact r_minus fun t' tk3 => q _ ⟨t', rfl⟩ _)
 | cmp i j k hm ih1 ih2 => intro Q tk q; exact wpAny_Compare1 (ih1 fun y hy tk' => ih2 fun z hz tk'' => cmp_ok k hy hz (q _ rfl _)) hm
end
end Pg
end
section
open PySem PySem.W PyProof.Rows PySem.Calls
namespace Pg
class inductive EvL (gt : Gt) (ls : Fs) (M : Mu) (F : Fz) : List Expr → List Value → Prop
  | nil : EvL gt ls M F [] []
  | cons {e : Expr} {es : List Expr} {v : Value} {vs : List Value} (i : Ev gt ls M F e (.v v)) (j : EvL gt ls M F es vs) (he : ∀ env, starEach (e :: es) env = (false, eval e env) :: starEach es env) : EvL gt ls M F (e :: es) (v :: vs)
class inductive EvB (gt : Gt) (ls : Fs) (M : Mu) (F : Fz) : Expr → Bool → Prop
  | cmp {l r : Expr} {p : Pos} {o : CmpOp} {x y : SV} {c : Bool} (i : Ev gt ls M F l x) (j : Ev gt ls M F r y) (k : CmpV o x y c) (hm : behindInMarks o r = false) : EvB gt ls M F (.Compare l [o] [r] p) c
  | not {e : Expr} {p : Pos} {b : Bool} (i : EvB gt ls M F e b) : EvB gt ls M F (.UnaryOp .Not e p) (!b)
  | val {e : Expr} {b : Bool} (i : Ev gt ls M F e (.v (.bool b))) (he : ∀ env whole, isTrue e env whole = (do let v ← whole; standAt e.pos; holding [v] (truthy v))) : EvB gt ls M F e b
section
variable {A : Around} {env : Env} {gt : Gt} {h₀ h : Heap} {F₀ F : Fz} {W : List Addr} {mu : Mu} {ls ls' : Fs} {tk : Nat} {s : Shared} {QF : Flow → Shared → Prop}
theorem evb_ok {e : Expr} {b : Bool} (ok : EnvOk env gt) (f : Fm h₀ F₀ W ((env.locals, frm env ls) :: mu) F h) (i : EvB gt ls ((env.locals, frm env ls) :: mu) F e b) :
  ∀ {Q : Bool → Shared → Prop} {tk : Nat}, (∀ tk', Q b ⟨h, g, d, tk', os⟩) → wpAny (model prog w) A (isTrue e env (eval e env)) Q E ⟨h, g, d, tk, os⟩ := by
 induction i with
 | cmp i j k hm => intro Q tk q; exact wpAny_isTrue_Compare1 (ev_ok ok f i fun y hy tk' => ev_ok ok f j fun z hz tk'' => cmp_ok k hy hz (r_truth (q _))) hm
 | not i ih => intro Q tk q; exact wpAny_isTrue_Not (ih fun tk' => q _)
 | val i he => intro Q tk q; exact wpAny_isTrue_value (ev_ok ok f i fun y hy tk' => by cases hy; exact r_truth (q _)) (he _ _)
theorem evl_ok {es : List Expr} {vs : List Value} {pos : Pos} (ok : EnvOk env gt) (f : Fm h₀ F₀ W ((env.locals, frm env ls) :: mu) F h) (i : EvL gt ls ((env.locals, frm env ls) :: mu) F es vs) :
  ∀ {Q : List Value → Shared → Prop} {tk : Nat}, (∀ tk', Q vs ⟨h, g, d, tk', os⟩) → wpAny (model prog w) A (spliced (backTo pos (starEach es env))) Q E ⟨h, g, d, tk, os⟩ := by
 induction i with
 | nil => intro Q tk q; exact a_nil (q _)
 | cons i j he ih => intro Q tk q; exact a_cons (ev_ok ok f i fun y hy tk' => by cases hy; exact ih fun tk'' => q _) (he _)
theorem xs_v {x : Str} {p' pos : Pos} {value : Expr} {rest : List Stmt} {v : Value} (ok : EnvOk env gt) (f : Fm h₀ F₀ W ((env.locals, frm env ls) :: mu) F h) (i : Ev gt ls ((env.locals, frm env ls) :: mu) F value (.v v)) (k : Sl ls x v ls')
  (hs : swapsWith value (some (.Name x p')) pos.line env = pure false) (q : ∀ h' tk', Fm h₀ F₀ W ((env.locals, frm env ls') :: mu) F h' → wpAny (model prog w) A (execs rest env) QF E ⟨h', g, d, tk', os⟩) : wpAny (model prog w) A (execs (.Assign [.Name x p'] value pos :: rest) env) QF E ⟨h, g, d, tk, os⟩ :=
 x_assign (ev_ok ok f i fun y hy tk' => by cases hy; exact r_store ok f k q) hs
theorem xs_i {x : Str} {p' pos : Pos} {value : Expr} {rest : List Stmt} {n : Int} (ok : EnvOk env gt) (f : Fm h₀ F₀ W ((env.locals, frm env ls) :: mu) F h) (i : Ev gt ls ((env.locals, frm env ls) :: mu) F value (.int n))
  (hs : swapsWith value (some (.Name x p')) pos.line env = pure false) (q : ∀ t tk', wpAny (model prog w) A (storeName env x (.int n t)) (fun _ s₂ => wpAny (model prog w) A (execs rest env) QF E s₂) E ⟨h, g, d, tk', os⟩) : wpAny (model prog w) A (execs (.Assign [.Name x p'] value pos :: rest) env) QF E ⟨h, g, d, tk, os⟩ :=
 x_assign (ev_ok ok f i fun y hy tk' => by obtain ⟨t, rfl⟩ := hy; exact q _ _) hs
theorem xr_v {e : Expr} {pos : Pos} {rest : List Stmt} {v : Value} {Q : Value → Shared → Prop} (ok : EnvOk env gt) (f : Fm h₀ F₀ W ((env.locals, frm env ls) :: mu) F h) (r : RetTo QF Q) (i : Ev gt ls ((env.locals, frm env ls) :: mu) F e (.v v)) (q : ∀ tk', Q v ⟨h, g, d, tk', os⟩) :
  wpAny (model prog w) A (execs (.Return (some e) pos :: rest) env) QF E ⟨h, g, d, tk, os⟩ := kx_ret r (ev_ok ok f i fun y hy tk' => by cases hy; exact q _)
theorem xr_i {e : Expr} {pos : Pos} {rest : List Stmt} {n : Int} {Q : Value → Shared → Prop} (ok : EnvOk env gt) (f : Fm h₀ F₀ W ((env.locals, frm env ls) :: mu) F h) (r : RetTo QF Q) (i : Ev gt ls ((env.locals, frm env ls) :: mu) F e (.int n)) (q : ∀ t tk', Q (.int n t) ⟨h, g, d, tk', os⟩) :
  wpAny (model prog w) A (execs (.Return (some e) pos :: rest) env) QF E ⟨h, g, d, tk, os⟩ := kx_ret r (ev_ok ok f i fun y hy tk' => by obtain ⟨t, rfl⟩ := hy; exact q _ _)
theorem xi_b {test : Expr} {body orelse : List Stmt} {pos : Pos} {rest : List Stmt} {b : Bool} (ok : EnvOk env gt) (f : Fm h₀ F₀ W ((env.locals, frm env ls) :: mu) F h) (i : EvB gt ls ((env.locals, frm env ls) :: mu) F test b)
  (q : ∀ tk', IfK A env body orelse rest QF b ⟨h, g, d, tk', os⟩) :
  wpAny (model prog w) A (execs (.If test body orelse pos :: rest) env) QF E ⟨h, g, d, tk, os⟩ := kx_if (evb_ok ok f i q)
theorem it_b {e : Expr} {b : Bool} {Q : Bool → Shared → Prop} (ok : EnvOk env gt) (f : Fm h₀ F₀ W ((env.locals, frm env ls) :: mu) F h) (i : EvB gt ls ((env.locals, frm env ls) :: mu) F e b) (q : ∀ tk', Q b ⟨h, g, d, tk', os⟩) :
  wpAny (model prog w) A (isTrue e env (eval e env)) Q E ⟨h, g, d, tk, os⟩ := evb_ok ok f i q
theorem er_call {x : Str} {p pos : Pos} {es : List Expr} {e : Expr} {v : Value} {vs : List Value} {fn : Value} {Q : Value → Shared → Prop} (ok : EnvOk env gt) (f : Fm h₀ F₀ W ((env.locals, frm env ls) :: mu) F h) (kx : Gk gt x fn) (k : Kp fn) (i : EvL gt ls ((env.locals, frm env ls) :: mu) F (e :: es) (v :: vs))
  (q : ∀ tk', wpAny (model prog w) A (call fn (v :: vs)) Q E ⟨h, g, d, tk', os⟩)
  (he : starEach (e :: es) env = (false, eval e env) :: starEach es env) (hplain : (backTo pos (starEach es env)).any (·.1) = false) :
  wpAny (model prog w) A (eval (.Call (.Name x p) (e :: es) [] pos) env) Q E ⟨h, g, d, tk, os⟩ := r_call ok f kx k (evl_ok ok f i fun tk' => ck f (q _)) he hplain
theorem emc {fn a : Value} {es : List Expr} {e : Expr} {v : Value} {vs : List Value} {pos : Pos} {Q : Value → Shared → Prop} (ok : EnvOk env gt) (f : Fm h₀ F₀ W ((env.locals, frm env ls) :: mu) F h) (k : Kp fn) (i : EvL gt ls ((env.locals, frm env ls) :: mu) F (e :: es) (v :: vs))
  (q : ∀ tk', wpAny (model prog w) A (call fn (a :: v :: vs)) Q E ⟨h, g, d, tk', os⟩)
  (he : starEach (e :: es) env = (false, eval e env) :: starEach es env) (hplain : (backTo pos (starEach es env)).any (·.1) = false) :
  Mc (model prog w) A env pos (e :: es) Q E (fn, [a]) ⟨h, g, d, tk, os⟩ := mc_1 ok k (evl_ok ok f i fun tk' => ck f (q _)) he hplain
theorem e_v {e : Expr} {v : Value} {Q : Value → Shared → Prop} (ok : EnvOk env gt) (f : Fm h₀ F₀ W ((env.locals, frm env ls) :: mu) F h) (i : Ev gt ls ((env.locals, frm env ls) :: mu) F e (.v v)) (q : ∀ tk', Q v ⟨h, g, d, tk', os⟩) : wpAny (model prog w) A (eval e env) Q E ⟨h, g, d, tk, os⟩ :=
 ev_ok ok f i fun y hy tk' => by cases hy; exact q _
theorem e_i {e : Expr} {n : Int} {Q : Value → Shared → Prop} (ok : EnvOk env gt) (f : Fm h₀ F₀ W ((env.locals, frm env ls) :: mu) F h) (i : Ev gt ls ((env.locals, frm env ls) :: mu) F e (.int n)) (q : ∀ t tk', Q (.int n t) ⟨h, g, d, tk', os⟩) : wpAny (model prog w) A (eval e env) Q E ⟨h, g, d, tk, os⟩ :=
 ev_ok ok f i fun y hy tk' => by obtain ⟨t, rfl⟩ := hy; exact q _ _
theorem emth {value : Expr} {o : Value} {x : Str} {apos pos : Pos} {args : List Expr} {pl : Sem Bool} {Q : Value → Shared → Prop} (ok : EnvOk env gt) (f : Fm h₀ F₀ W ((env.locals, frm env ls) :: mu) F h) (i : Ev gt ls ((env.locals, frm env ls) :: mu) F value (.v o))
  (q : ∀ tk', wpAny (model prog w) A (getMethod o x pl) (Mc (model prog w) A env pos args Q E) E ⟨h, g, d, tk', os⟩)
  (he : eval (.Call (.Attribute value x apos) args [] pos) env = (do
   let ov ← eval value env
   standAt apos.atName
   let (f, first) ← holding [ov] (getMethod ov x pl)
   callWith pos f first (backTo pos (starEach args env)) [])) : wpAny (model prog w) A (eval (.Call (.Attribute value x apos) args [] pos) env) Q E ⟨h, g, d, tk, os⟩ := k_mth (e_v ok f i q) he
theorem ka_v {e : Expr} {rest : List Expr} {pos : Pos} {v : Value} {Q : List Value → Shared → Prop} (ok : EnvOk env gt) (f : Fm h₀ F₀ W ((env.locals, frm env ls) :: mu) F h) (i : Ev gt ls ((env.locals, frm env ls) :: mu) F e (.v v))
  (q : ∀ tk', ArgF A env rest pos Q v ⟨h, g, d, tk', os⟩) (he : starEach (e :: rest) env = (false, eval e env) :: starEach rest env) : wpAny (model prog w) A (spliced (backTo pos (starEach (e :: rest) env))) Q E ⟨h, g, d, tk, os⟩ := k_arg (e_v ok f i q) he
theorem ka_int {i : Int} {k : Nat} {p pos : Pos} {rest : List Expr} {Q : List Value → Shared → Prop}
  (q : ∀ t tk', ArgF A env rest pos Q (.int i t) ⟨h, g, d, tk', os⟩) : wpAny (model prog w) A (spliced (backTo pos (starEach (.Constant (.int i) k p :: rest) env))) Q E ⟨h, g, d, tk, os⟩ := k_arg (r_int q) rfl
theorem ka_str {i : Str} {k : Nat} {p pos : Pos} {rest : List Expr} {Q : List Value → Shared → Prop}
  (q : ∀ t tk', ArgF A env rest pos Q (.str i t) ⟨h, g, d, tk', os⟩) : wpAny (model prog w) A (spliced (backTo pos (starEach (.Constant (.str i) k p :: rest) env))) Q E ⟨h, g, d, tk, os⟩ := k_arg (r_str q) rfl
theorem essb_v {o i : Expr} {v ov iv : Value} {rest : List Stmt} (ok : EnvOk env gt) (f : Fm h₀ F₀ W ((env.locals, frm env ls) :: mu) F h) (j : Ev gt ls ((env.locals, frm env ls) :: mu) F o (.v ov)) (k : Ev gt ls ((env.locals, frm env ls) :: mu) F i (.v iv))
  (q : ∀ tk', wpAny (model prog w) A (setItem ov iv v) (Exu A env rest QF) E ⟨h, g, d, tk', os⟩) : SSb A env o i rest QF v ⟨h, g, d, tk, os⟩ := e_v ok f j fun tk' => e_v (Q := SSb3 A env v ov rest QF) ok f k q
theorem essb_s {o i : Expr} {v ov : Value} {x : Str} {rest : List Stmt} (ok : EnvOk env gt) (f : Fm h₀ F₀ W ((env.locals, frm env ls) :: mu) F h) (j : Ev gt ls ((env.locals, frm env ls) :: mu) F o (.v ov)) (k : Ev gt ls ((env.locals, frm env ls) :: mu) F i (.str x))
  (q : ∀ t tk', wpAny (model prog w) A (setItem ov (.str x t) v) (Exu A env rest QF) E ⟨h, g, d, tk', os⟩) : SSb A env o i rest QF v ⟨h, g, d, tk, os⟩ := e_v ok f j fun tk' => ev_ok (Q := SSb3 A env v ov rest QF) ok f k fun y hy tk'' => by obtain ⟨t, rfl⟩ := hy; exact q _ _
theorem essb_i {o i : Expr} {v ov : Value} {n : Int} {rest : List Stmt} (ok : EnvOk env gt) (f : Fm h₀ F₀ W ((env.locals, frm env ls) :: mu) F h) (j : Ev gt ls ((env.locals, frm env ls) :: mu) F o (.v ov)) (k : Ev gt ls ((env.locals, frm env ls) :: mu) F i (.int n))
  (q : ∀ t tk', wpAny (model prog w) A (setItem ov (.int n t) v) (Exu A env rest QF) E ⟨h, g, d, tk', os⟩) : SSb A env o i rest QF v ⟨h, g, d, tk, os⟩ := e_v ok f j fun tk' => e_i (Q := SSb3 A env v ov rest QF) ok f k q
theorem esat {o : Expr} {x : Str} {v ov : Value} {rest : List Stmt} (ok : EnvOk env gt) (f : Fm h₀ F₀ W ((env.locals, frm env ls) :: mu) F h) (j : Ev gt ls ((env.locals, frm env ls) :: mu) F o (.v ov))
  (q : ∀ tk', wpAny (model prog w) A (setAttr ov x v) (Exu A env rest QF) E ⟨h, g, d, tk', os⟩) : SAt A env o x rest QF v ⟨h, g, d, tk, os⟩ := e_v ok f j q
end
end Pg
end
section
open PySem PySem.W PyProof.Rows PySem.Calls
namespace Pg
theorem g_wp {α : Type} {M : Model} {A : Around} {c : Sem α} {Q : α → Shared → Prop} {E : Value → Shared → Prop} {s : Shared} (q : wpAny M A c Q E s) : wpAny M A c Q E s := q
theorem g_execs {M : Model} {A : Around} {c : List Stmt} {env : Env} {Q : Flow → Shared → Prop} {E : Value → Shared → Prop} {s : Shared} (q : wpAny M A (execs c env) Q E s) : wpAny M A (execs c env) Q E s := q
theorem g_eval {M : Model} {A : Around} {c : Expr} {env : Env} {Q : Value → Shared → Prop} {E : Value → Shared → Prop} {s : Shared} (q : wpAny M A (eval c env) Q E s) : wpAny M A (eval c env) Q E s := q
theorem g_spl {M : Model} {A : Around} {c : List (Bool × Sem Value)} {Q : List Value → Shared → Prop} {E : Value → Shared → Prop} {s : Shared} (q : wpAny M A (spliced c) Q E s) : wpAny M A (spliced c) Q E s := q
theorem g_true {M : Model} {A : Around} {c : Expr} {env : Env} {x : Sem Value} {Q : Bool → Shared → Prop} {E : Value → Shared → Prop} {s : Shared} (q : wpAny M A (isTrue c env x) Q E s) : wpAny M A (isTrue c env x) Q E s := q
theorem g_all {M : Model} {A : Around} {o : BoolOp} {c : List Expr} {env : Env} {Q : Bool → Shared → Prop} {E : Value → Shared → Prop} {s : Shared} (q : wpAny M A (allTrue o c env) Q E s) : wpAny M A (allTrue o c env) Q E s := q
inductive CvK (h₀ : Heap) (F₀ : Fz) (W : List Addr) (mu : Mu) (F : Fz) (J : Fz → Prop) (s : Shared) : Prop
  | mk (F' : Fz) (h : Heap) (tk : Nat) (e : s = ⟨h, g, d, tk, os⟩) (f : Fm h₀ F₀ W mu F' h) (le : Le F F') (j : J F') : CvK h₀ F₀ W mu F J s
section
variable {A : Around} {env : Env} {gt : Gt} {h₀ h : Heap} {F₀ F : Fz} {W : List Addr} {mu : Mu} {ls : Fs} {tk : Nat}
theorem CvK.cv {p1 p2 p3 p4 : Addr × Cell} {J : Fz → Prop} {s : Shared} (k : CvK h₀ F₀ W (p1 :: p2 :: p3 :: p4 :: mu) F J s) : Cv h₀ F₀ W p1 p2 p3 p4 F (fun m F => m = mu ∧ J F) s := by
 obtain ⟨a, b, c, d, e, f, g⟩ := k
 exact ⟨mu, a, b, c, d, e, f, rfl, g⟩
theorem comp_goK {elt iter : Expr} {x : Str} {px : Pos} {scope : Scope} {pos : Pos} {cl : List (Str × Addr)} {I : Addr} {n : Nat} {P : Nat → Value → Prop} {c : Nat → Cell} {Q : Value → Shared → Prop} (J : Nat → List Value → Fz → Prop)
  (S : Src prog w A F I n P c) (f : Fm h₀ F₀ W ((env.locals, frm env ls) :: (I, c 0) :: mu) F h) (hI : Own h₀ W I) (j0 : J 0 [] F) (hn : n ≤ 1000)
  (hcell : (scope.names.all fun y => y.2 != .cell) = true) (hk : scope.kind = .function) (hx : scope.names.lookup x = some .local)
  (turn : ∀ C i v vs F' h' tk', i < n → P i v → vs.length = i → J i vs F' → Le F F' → CompOk scope cl env (compE scope cl C env) →
   (∀ D, Fm h₀ F₀ W (((compE scope cl C env).locals, frm (compE scope cl C env) [(x, some v)]) :: (D, lst vs) :: (I, c (i + 1)) :: (env.locals, frm env ls) :: mu) F' h' →
   wpAny (model prog w) A (eval elt (compE scope cl C env)) (fun y s₃ => CvK h₀ F₀ W (((compE scope cl C env).locals, frm (compE scope cl C env) [(x, some v)]) :: (D, lst vs) :: (I, c (i + 1)) :: (env.locals, frm env ls) :: mu) F (J (i + 1) (vs ++ [y])) s₃) E ⟨h', g, d, tk', os⟩))
  (done : ∀ D vs F' F'' h' tk', vs.length = n → J n vs F' → Le F F' → Le F' F'' → F'' D = some (lst vs) → Fm h₀ F₀ W ((env.locals, frm env ls) :: mu) F'' h' → Q (.ref D) ⟨h', g, d, tk', os⟩) :
  CompGo (model prog w) A E env (.ListComp elt [⟨.Name x px, iter, [], 0⟩] scope pos) scope cl none Q (.ref I) ⟨h, g, d, tk, os⟩ :=
 comp_go (fun i vs m F => m = mu ∧ J i vs F) S f hI ⟨rfl, j0⟩ hn hcell hk hx (fun C i v vs m F' h' tk' hi hP hl hj le ok D f' => by
  obtain ⟨rfl, j⟩ := hj
  exact wpAny_mono (turn C i v vs F' h' tk' hi hP hl j le ok D f') (fun y s z => z.cv) fun _ _ z => z) fun D vs m F' F'' h' tk' hl hj => by
  obtain ⟨rfl, j⟩ := hj
  exact done D vs F' F'' h' tk' hl j
theorem comp_goAK {elt iter : Expr} {x y : Str} {px py : Pos} {scope : Scope} {pos : Pos} {cl : List (Str × Addr)} {I : Addr} {n : Nat} {P : Nat → Value → Prop} {c : Nat → Cell} {Q : Value → Shared → Prop} (J : Nat → List Value → Fz → Prop) (e : EnvOk env gt)
  (S : Src prog w A F I n P c) (f : Fm h₀ F₀ W ((env.locals, frm env ls) :: (I, c 0) :: mu) F h) (hI : Own h₀ W I) (j0 : J 0 [] F) (hn : n ≤ 1000)
  (hcell : (scope.names.all fun y => y.2 != .cell) = true) (hk : scope.kind = .function) (hx : scope.names.lookup x = some .local)
  (turn : ∀ C i v vs F' h' tk', i < n → P i v → vs.length = i → J i vs F' → Le F F' → CompOk scope cl env (compE scope cl C env) →
   (∀ D, Fm h₀ F₀ W (((compE scope cl C env).locals, frm (compE scope cl C env) [(x, some v)]) :: (D, lst vs) :: (I, c (i + 1)) :: (env.locals, frm env ls) :: mu) F' h' →
   wpAny (model prog w) A (eval elt (compE scope cl C env)) (fun y s₃ => CvK h₀ F₀ W (((compE scope cl C env).locals, frm (compE scope cl C env) [(x, some v)]) :: (D, lst vs) :: (I, c (i + 1)) :: (env.locals, frm env ls) :: mu) F (J (i + 1) (vs ++ [y])) s₃) E ⟨h', g, d, tk', os⟩))
  (done : ∀ D vs F' F'' h' tk', vs.length = n → J n vs F' → Le F F' → Le F' F'' → F'' D = some (lst vs) → (∀ ls', Sl ls y (.ref D) ls' → Fm h₀ F₀ W ((env.locals, frm env ls') :: mu) F'' h' → Q .none ⟨h', g, d, tk', os⟩))
  (hy : ∀ v, ∃ ls', Sl ls y v ls') :
  CompGo (model prog w) A E env (.ListComp elt [⟨.Name x px, iter, [], 0⟩] scope pos) scope cl (some (assign (.Name y py) env)) Q (.ref I) ⟨h, g, d, tk, os⟩ :=
 comp_goA (fun i vs m F => m = mu ∧ J i vs F) e S f hI ⟨rfl, j0⟩ hn hcell hk hx (fun C i v vs m F' h' tk' hi hP hl hj le ok D f' => by
  obtain ⟨rfl, j⟩ := hj
  exact wpAny_mono (turn C i v vs F' h' tk' hi hP hl j le ok D f') (fun y s z => z.cv) fun _ _ z => z) (fun D vs m F' F'' h' tk' hl hj => by
  obtain ⟨rfl, j⟩ := hj
  exact done D vs F' F'' h' tk' hl j) hy
theorem CvK.cvC {p1 p2 p3 p4 p5 : Addr × Cell} {J : Fz → Prop} {s : Shared} (k : CvK h₀ F₀ W (p1 :: p2 :: p3 :: p4 :: p5 :: mu) F J s) : CvC h₀ F₀ W p1 p2 p3 p4 p5 F (fun m F => m = mu ∧ J F) s := by
 obtain ⟨a, b, c, d, e, f, g⟩ := k
 exact ⟨mu, a, b, c, d, e, f, rfl, g⟩
theorem comp_goCK {elt iter : Expr} {x : Str} {px : Pos} {scope : Scope} {pos : Pos} {cl : List (Str × Addr)} {I : Addr} {n : Nat} {P : Nat → Value → Prop} {c : Nat → Cell} {Q : Value → Shared → Prop} (J : Nat → List Value → Fz → Prop)
  (S : Src prog w A F I n P c) (f : Fm h₀ F₀ W ((env.locals, frm env ls) :: (I, c 0) :: mu) F h) (hI : Own h₀ W I) (j0 : J 0 [] F) (hn : n ≤ 1000)
  (hcf : ∀ m, cellsFrom m scope.names cl = (x, m) :: cl) (hpc : ∀ y, pushCells y scope.names = y.push { cls := .type "cell", data := .cell none }) (hk : scope.kind = .function) (hx : scope.names.lookup x = some .cell)
  (turn : ∀ C cx i v vs F' h' tk', i < n → P i v → vs.length = i → J i vs F' → Le F F' → CompOk scope ((x, cx) :: cl) env (compE scope ((x, cx) :: cl) C env) →
   (∀ D, Fm h₀ F₀ W (((compE scope ((x, cx) :: cl) C env).locals, frm (compE scope ((x, cx) :: cl) C env) []) :: (cx, cel (some v)) :: (D, lst vs) :: (I, c (i + 1)) :: (env.locals, frm env ls) :: mu) F' h' →
   wpAny (model prog w) A (eval elt (compE scope ((x, cx) :: cl) C env)) (fun y s₃ => CvK h₀ F₀ W (((compE scope ((x, cx) :: cl) C env).locals, frm (compE scope ((x, cx) :: cl) C env) []) :: (cx, cel (some v)) :: (D, lst vs) :: (I, c (i + 1)) :: (env.locals, frm env ls) :: mu) F (J (i + 1) (vs ++ [y])) s₃) E ⟨h', g, d, tk', os⟩))
  (done : ∀ D vs F' F'' h' tk', vs.length = n → J n vs F' → Le F F' → Le F' F'' → F'' D = some (lst vs) → Fm h₀ F₀ W ((env.locals, frm env ls) :: mu) F'' h' → Q (.ref D) ⟨h', g, d, tk', os⟩) :
  CompGo (model prog w) A E env (.ListComp elt [⟨.Name x px, iter, [], 0⟩] scope pos) scope cl none Q (.ref I) ⟨h, g, d, tk, os⟩ :=
 comp_goC (fun i vs m F => m = mu ∧ J i vs F) S f hI ⟨rfl, j0⟩ hn hcf hpc hk hx (fun C cx i v vs m F' h' tk' hi hP hl hj le ok D f' => by
  obtain ⟨rfl, j⟩ := hj
  exact wpAny_mono (turn C cx i v vs F' h' tk' hi hP hl j le ok D f') (fun y s z => z.cvC) fun _ _ z => z) fun D vs m F' F'' h' tk' hl hj => by
  obtain ⟨rfl, j⟩ := hj
  exact done D vs F' F'' h' tk' hl j
end
end Pg
end
open PySem PySem.W PyProof.Rows
set_option maxHeartbeats 4000000
namespace Pg
theorem kw : True := by
  (k_with "lk" => with_reducible first | exact Lk.head | exact lk1 | exact lk2 | exact lk3 | exact lk4 | exact lk5 | exact lk6 | exact lk7 | exact lk8 | exact lk9 | exact lk10 | exact lk11 | exact lk12)
  (k_with "sl" => with_reducible first | exact Sl.head | exact sl1 | exact sl2 | exact sl3 | exact sl4 | exact sl5 | exact sl6 | exact sl7 | exact sl8 | exact sl9 | exact sl10 | exact sl11 | exact sl12)
  (k_with "gk" => with_reducible first | exact Gk.head | exact gk1 | exact gk2 | exact gk3 | exact gk4 | exact gk5 | exact gk6 | exact gk7 | exact gk8 | exact gk9 | exact gk10 | exact gk11 | exact gk12 | exact gk13 | exact gk14 | exact gk15 | exact gk16 | exact gk17 | exact gk18 | exact gk19)
  (k_with "up" => first | with_reducible exact Up.head | with_reducible exact up1 | with_reducible exact up2 | with_reducible exact up3 | with_reducible exact up4 | with_reducible exact up5 | with_reducible exact up6 | with_reducible exact up7 | with_reducible exact up8 | with_reducible exact up9 | with_reducible exact up10 | (with_reducible (fail_if_success fail_if_success refine' Up.tail ?_); refine Up.tail (by k_extra "up")))
  (k_with "mem" => with_reducible first | exact List.mem_cons_self | exact mm1 | exact mm2 | exact mm3 | exact mm4 | exact mm5 | exact mm6 | exact mm7 | exact mm8 | exact mm9 | exact mm10 | exact mm11 | exact mm12)
  (k_with "rm" => first | with_reducible exact Rm.head | (with_reducible (fail_if_success fail_if_success refine' Rm.tail ?_); refine Rm.tail (by k_extra "rm")))
  (k_with "ld" => first | with_reducible exact Ld.head | (with_reducible (fail_if_success fail_if_success refine' Ld.tail ?_); refine Ld.tail (by k_extra "ld")))
  (k_with "sd" => first | with_reducible exact Sd.head | (with_reducible (fail_if_success fail_if_success refine' Sd.tail ?_); refine Sd.tail (by k_extra "sd")))
  (k_with "tk" => first | with_reducible exact Tk.nil | (with_reducible (fail_if_success fail_if_success refine' Tk.take ?_); refine Tk.take (by k_extra "tk")) | (with_reducible (fail_if_success fail_if_success refine' Tk.skip ?_); refine Tk.skip (by k_extra "tk")))
  (k_with "fz" => first | with_reducible assumption | with_reducible exact Fz.set_self | (with_reducible (fail_if_success fail_if_success refine' Le.at ?_ ?_); refine Le.at (by assumption) (by k_extra "fz")))
  (k_with "le" => first | with_reducible exact Le.rfl | with_reducible assumption | (with_reducible refine le_t (by assumption) (by k_extra "le")))
  (k_with "at" => first | (with_reducible (fail_if_success fail_if_success refine' At.f ?_); refine At.f (by k_extra "fz")) | (with_reducible (fail_if_success fail_if_success refine' At.m ?_); refine At.m (by k_extra "mem")))
  (k_with "n" => first | decide | k_extra "om")
  (k_with "room" => ((with_reducible refine Room.le ?_ (by assumption)); decide))
  (k_with "hd" => (with_reducible (fail_if_success fail_if_success refine' Room.hd ?_); refine Room.hd (by assumption)))
  (k_with "DecV" => first | with_reducible assumption | (with_reducible refine DecV.mono (by assumption) (by k_extra "DecV")))
  (k_with "NumV" => first | with_reducible assumption | (with_reducible refine NumV.mono (by assumption) (by k_extra "NumV")))
  (k_with "MatV" => first | with_reducible assumption | (with_reducible refine MatV.mono (by assumption) (by k_extra "MatV")))
  (k_with "tape" => first | with_reducible assumption | (with_reducible refine TapeOk.mono (by assumption) (by k_extra "tape")))
  (k_with "LMat" => first | with_reducible assumption | (with_reducible refine LMat.mono (by assumption) (by k_extra "LMat")))
  (k_with "CsV" => first | with_reducible assumption | (with_reducible refine CsV.mono (by assumption) (by k_extra "CsV")))
  (k_with "FontV" => first | with_reducible assumption | (with_reducible refine FontV.mono (by assumption) (by k_extra "FontV")))
  (k_with "num" => first | with_reducible exact NumV.int | with_reducible assumption | (with_reducible (fail_if_success fail_if_success refine' DecV.num ?_); refine DecV.num (by k_extra "DecV")) | (with_reducible refine NumV.mono (by assumption) (by k_extra "num")))
  (k_with "iv" => with_reducible first | exact IntV.i | exact IntV.v)
  (k_with "svv" => with_reducible first | exact StrV'.i | exact StrV'.v)
  (k_with "cmpk" => with_reducible first | exact Cmp.lt | exact Cmp.gt | exact Cmp.le | exact Cmp.eq | exact Cmp.ne)
  (k_with "itv" => first | (focus ((fail_if_success (fail_if_success (with_reducible refine' ItV.lst ?_ ?_ ?_ ?_ ?_ ?_))); (with_reducible refine ItV.lst (by k_extra "iv") (by k_extra "at") ?_ ?_ (by with_unfolding_all rfl) ?_); (· first | decide | k_extra "om"); (· first | decide | k_extra "om"); (· (intro _; with_unfolding_all rfl)))) | (focus ((fail_if_success (fail_if_success (with_reducible refine' ItV.tup ?_ ?_ ?_ ?_ ?_ ?_))); (with_reducible refine ItV.tup (by k_extra "iv") (by k_extra "at") ?_ ?_ (by with_unfolding_all rfl) ?_); (· first | decide | k_extra "om"); (· first | decide | k_extra "om"); (· (intro _; with_unfolding_all rfl)))) | (focus ((fail_if_success (fail_if_success (with_reducible refine' ItV.lsi ?_ ?_ ?_ ?_ ?_ ?_))); (with_reducible refine ItV.lsi (by k_extra "iv") (by k_extra "at") ?_ ?_ (by with_unfolding_all rfl) ?_); (· first | decide | k_extra "om"); (· first | decide | k_extra "om"); (· (intro _; with_unfolding_all rfl)))) | (focus ((fail_if_success (fail_if_success (with_reducible refine' ItV.dic ?_ ?_ ?_ ?_))); (with_reducible refine ItV.dic (by k_extra "svv") (by k_extra "at") (by k_extra "ld") ?_); (· (intro _; with_unfolding_all rfl)))))
  (k_with "cmv" => first | (with_reducible (fail_if_success fail_if_success refine' CmpV.n ?_ ?_ ?_); refine CmpV.n (by k_extra "iv") (by k_extra "iv") (by k_extra "cmpk")) | (focus ((fail_if_success (fail_if_success (with_reducible refine' CmpV.eq (c := true) ?_ ?_ ?_))); (with_reducible refine CmpV.eq (c := true) (by k_extra "svv") (by k_extra "svv") ?_); (· with_unfolding_all rfl))) | (focus ((fail_if_success (fail_if_success (with_reducible refine' CmpV.eq (c := false) ?_ ?_ ?_))); (with_reducible refine CmpV.eq (c := false) (by k_extra "svv") (by k_extra "svv") ?_); (· with_unfolding_all rfl))) | (focus ((fail_if_success (fail_if_success (with_reducible refine' CmpV.ne (c := true) ?_ ?_ ?_))); (with_reducible refine CmpV.ne (c := true) (by k_extra "svv") (by k_extra "svv") ?_); (· with_unfolding_all rfl))) | (focus ((fail_if_success (fail_if_success (with_reducible refine' CmpV.ne (c := false) ?_ ?_ ?_))); (with_reducible refine CmpV.ne (c := false) (by k_extra "svv") (by k_extra "svv") ?_); (· with_unfolding_all rfl))))
  (k_with "evi" => first | with_reducible exact Ev.int | (with_reducible (fail_if_success fail_if_success refine' Ev.add ?_ ?_ ?_ ?_); refine Ev.add (by k_extra "ev") (by k_extra "ev") (by k_extra "iv") (by k_extra "iv")) | (with_reducible (fail_if_success fail_if_success refine' Ev.sub ?_ ?_ ?_ ?_); refine Ev.sub (by k_extra "ev") (by k_extra "ev") (by k_extra "iv") (by k_extra "iv")))
  (k_with "evs" => with_reducible exact Ev.str)
  (k_with "ev" => first | (focus ((fail_if_success (fail_if_success (with_reducible refine' Ev.loc ?_ ?_))); (with_reducible refine Ev.loc (by k_extra "lk") ?_); (· with_unfolding_all rfl))) | (with_reducible (fail_if_success fail_if_success refine' Ev.glo ?_); refine Ev.glo (by k_extra "gk")) | with_reducible exact Ev.int | with_reducible exact Ev.str | with_reducible exact Ev.none | with_reducible exact Ev.bool | (focus ((fail_if_success (fail_if_success (with_reducible refine' Ev.attr ?_ ?_ ?_ ?_ ?_ ?_ ?_))); (with_reducible refine Ev.attr (by k_extra "ev") (by k_extra "fz") (by k_extra "at") (by k_extra "fo") (by k_extra "lk") ?_ ?_); (· first | (with_unfolding_all rfl) | assumption); (· with_unfolding_all exact fun _ => rfl))) | (with_reducible (fail_if_success fail_if_success refine' Ev.item ?_ ?_ ?_); refine Ev.item (by k_extra "ev") (by k_extra "ev") (by k_extra "itv")) | (with_reducible (fail_if_success fail_if_success refine' Ev.add ?_ ?_ ?_ ?_); refine Ev.add (by k_extra "ev") (by k_extra "ev") (by k_extra "iv") (by k_extra "iv")) | (with_reducible (fail_if_success fail_if_success refine' Ev.sub ?_ ?_ ?_ ?_); refine Ev.sub (by k_extra "ev") (by k_extra "ev") (by k_extra "iv") (by k_extra "iv")) | (focus ((fail_if_success (fail_if_success (with_reducible refine' Ev.cmp ?_ ?_ ?_ ?_))); (with_reducible refine Ev.cmp (by k_extra "ev") (by k_extra "ev") (by k_extra "cmv") ?_); (· with_unfolding_all rfl))))
  (k_with "evl" => first | with_reducible exact EvL.nil | (focus ((fail_if_success (fail_if_success (with_reducible refine' EvL.cons ?_ ?_ ?_))); (with_reducible refine EvL.cons (by k_extra "ev") (by k_extra "evl") ?_); (· with_unfolding_all exact fun _ => rfl))))
  (k_with "evb" => first | (focus ((fail_if_success (fail_if_success (with_reducible refine' EvB.cmp ?_ ?_ ?_ ?_))); (with_reducible refine EvB.cmp (by k_extra "ev") (by k_extra "ev") (by k_extra "cmv") ?_); (· with_unfolding_all rfl))) | (with_reducible (fail_if_success fail_if_success refine' EvB.not ?_); refine EvB.not (by k_extra "evb")) | (focus ((fail_if_success (fail_if_success (with_reducible refine' EvB.val ?_ ?_))); (with_reducible refine EvB.val (by k_extra "ev") ?_); (· with_unfolding_all exact fun _ _ => rfl))))
  (k_with "rt" => first | with_reducible exact RetTo.rt | (with_reducible (fail_if_success fail_if_success refine' RetTo.nx ?_); refine RetTo.nx (by k_extra "rt")) | with_reducible exact RetTo.id)
  (k_with "s" => first | ((fail_if_success (fail_if_success (with_reducible refine' g_wp ?_))); first | ((fail_if_success (fail_if_success (with_reducible refine' g_execs ?_))); first | (focus ((fail_if_success (fail_if_success (with_reducible refine' xs_v ?_ ?_ ?_ ?_ ?_ ?_))); (with_reducible refine xs_v (by assumption) (by assumption) (by k_extra "ev") (by k_extra "sl") ?_ ?_); (· with_unfolding_all rfl); intro _ _ _)) | (focus ((fail_if_success (fail_if_success (with_reducible refine' xs_i ?_ ?_ ?_ ?_ ?_))); (with_reducible refine xs_i (by assumption) (by assumption) (by k_extra "evi") ?_ ?_); (· with_unfolding_all rfl); intro _ _)) | (focus ((with_reducible refine kx_assign ?_ ?_); rotate_left 1; (· with_unfolding_all rfl); rotate_right 1)) | (focus ((with_reducible refine kx_setsub ?_ ?_); rotate_left 1; (· with_unfolding_all rfl); rotate_right 1)) | (focus ((with_reducible refine kx_setattr ?_ ?_); rotate_left 1; (· with_unfolding_all rfl); rotate_right 1)) | (focus ((fail_if_success (fail_if_success (with_reducible refine' xr_v ?_ ?_ ?_ ?_ ?_))); (with_reducible refine xr_v (by assumption) (by assumption) (by k_extra "rt") (by k_extra "ev") ?_); intro _)) | (focus ((fail_if_success (fail_if_success (with_reducible refine' xr_i ?_ ?_ ?_ ?_ ?_))); (with_reducible refine xr_i (by assumption) (by assumption) (by k_extra "rt") (by k_extra "evi") ?_); intro _ _)) | (with_reducible (fail_if_success fail_if_success refine' kx_ret ?_ ?_); refine kx_ret (by k_extra "rt") ?_) | (with_reducible (fail_if_success fail_if_success refine' kx_ret0 ?_ ?_); refine kx_ret0 (by k_extra "rt") ?_) | (focus ((fail_if_success (fail_if_success (with_reducible refine' xi_b ?_ ?_ ?_ ?_))); (with_reducible refine xi_b (by assumption) (by assumption) (by k_extra "evb") ?_); intro _)) | ((with_reducible refine kx_if ?_)) | (focus ((fail_if_success (fail_if_success (with_reducible refine' kx_expr ?_ ?_ ?_))); (with_reducible refine kx_expr (by assumption) ?_ ?_); rotate_left 1; (· with_unfolding_all rfl); rotate_right 1)) | (focus ((with_reducible refine kx_unpack ?_ ?_ ?_); rotate_left 1; (· with_unfolding_all rfl); (· with_unfolding_all rfl); rotate_right 1)) | (focus ((with_reducible refine kx_for ?_ ?_); rotate_left 1; (· with_unfolding_all exact fun _ => rfl); rotate_right 1)) | ((with_reducible refine x_nilN ?_)) | ((with_reducible refine x_nilR ?_)) | ((with_reducible refine x_nil ?_))) | ((fail_if_success (fail_if_success (with_reducible refine' g_eval ?_))); first | (focus ((fail_if_success (fail_if_success (with_reducible refine' r_loc ?_ ?_ ?_ ?_ ?_))); (with_reducible refine r_loc (by assumption) (by assumption) (by k_extra "lk") ?_ ?_); (· with_unfolding_all rfl))) | (focus ((with_reducible refine r_int ?_); intro _ _)) | (focus ((fail_if_success (fail_if_success (with_reducible refine' e_v ?_ ?_ ?_ ?_))); (with_reducible refine e_v (by assumption) (by assumption) (by k_extra "ev") ?_); intro _)) | (focus ((fail_if_success (fail_if_success (with_reducible refine' e_i ?_ ?_ ?_ ?_))); (with_reducible refine e_i (by assumption) (by assumption) (by k_extra "evi") ?_); intro _ _)) | ((with_reducible refine k_bin ?_)) | ((with_reducible refine k_sub ?_)) | (focus ((with_reducible refine k_cmp ?_ ?_); rotate_left 1; (· with_unfolding_all rfl); rotate_right 1)) | (focus ((with_reducible refine r_str ?_); intro _ _)) | ((with_reducible refine r_none ?_)) | (focus ((with_reducible refine r_bytesc ?_); intro _ _)) | ((with_reducible refine r_bool ?_)) | ((with_reducible refine k_list ?_)) | ((with_reducible refine k_tup ?_)) | ((with_reducible refine wpAny_UnaryOp ?_)) | ((with_reducible refine k_ife ?_)) | (focus ((with_reducible refine k_att ?_ ?_); rotate_left 1; (· with_unfolding_all rfl); rotate_right 1)) | (focus ((fail_if_success (fail_if_success (with_reducible refine' emth ?_ ?_ ?_ ?_ ?_))); (with_reducible refine emth (by assumption) (by assumption) (by k_extra "ev") ?_ (by with_unfolding_all rfl)); intro _)) | (with_reducible (fail_if_success fail_if_success refine' k_mth ?_ ?_); refine k_mth ?_ (by with_unfolding_all rfl)) | (with_reducible (fail_if_success fail_if_success refine' r_glo ?_ ?_ ?_ ?_); refine r_glo (by assumption) (by assumption) (by k_extra "gk") ?_) | (focus ((fail_if_success (fail_if_success (with_reducible refine' r_cel ?_ ?_ ?_ ?_ ?_ ?_ ?_))); (with_reducible refine r_cel (by assumption) (by assumption) (by assumption) (by k_extra "at") ?_ ?_ ?_); (· with_unfolding_all rfl); (· with_unfolding_all rfl)))) | ((fail_if_success (fail_if_success (with_reducible refine' g_spl ?_))); first | (focus ((with_reducible refine ka_int ?_); intro _ _)) | (focus ((with_reducible refine ka_str ?_); intro _ _)) | (focus ((fail_if_success (fail_if_success (with_reducible refine' ka_v ?_ ?_ ?_ ?_ ?_))); (with_reducible refine ka_v (by assumption) (by assumption) (by k_extra "ev") ?_ ?_); rotate_left 1; (· with_unfolding_all rfl); rotate_right 1; intro _)) | (focus ((with_reducible refine k_arg ?_ ?_); rotate_left 1; (· with_unfolding_all rfl); rotate_right 1)) | ((with_reducible refine a_nil ?_))) | ((fail_if_success (fail_if_success (with_reducible refine' g_true ?_))); first | (focus ((fail_if_success (fail_if_success (with_reducible refine' it_b ?_ ?_ ?_ ?_))); (with_reducible refine it_b (by assumption) (by assumption) (by k_extra "evb") ?_); intro _)) | (focus ((with_reducible refine k_tcmp ?_ ?_); rotate_left 1; (· with_unfolding_all rfl); rotate_right 1)) | ((with_reducible refine wpAny_isTrue_Not ?_)) | ((with_reducible refine wpAny_isTrue_BoolOp ?_)) | (focus ((with_reducible refine k_tval ?_ ?_); rotate_left 1; (· with_unfolding_all rfl); rotate_right 1))) | ((fail_if_success (fail_if_success (with_reducible refine' g_all ?_))); first | ((with_reducible refine k_and ?_)) | ((with_reducible refine k_or ?_)) | ((with_reducible refine wpAny_allTrue_And_nil ?_)) | ((with_reducible refine wpAny_allTrue_Or_nil ?_))) | (focus ((with_reducible refine r_add ?_); intro _ _)) | (focus ((with_reducible refine r_minus ?_); intro _ _)) | (focus ((with_reducible refine r_neg ?_); intro _ _)) | ((with_reducible refine r_lt ?_)) | ((with_reducible refine r_gt ?_)) | ((with_reducible refine r_le ?_)) | ((with_reducible refine r_eq ?_)) | ((with_reducible refine r_ne ?_)) | ((with_reducible refine r_isnone ?_)) | ((with_reducible refine r_isnone' ?_)) | ((with_reducible refine r_notnone ?_)) | ((with_reducible refine r_notnone' ?_)) | ((with_reducible refine r_truth ?_)) | ((with_reducible refine wpAny_assign_Name ?_)) | ((with_reducible refine d_cons ?_)) | ((with_reducible refine d_nil ?_)) | (focus ((fail_if_success (fail_if_success (with_reducible refine' r_store ?_ ?_ ?_ ?_))); (with_reducible refine r_store (by assumption) (by assumption) (by k_extra "sl") ?_); intro _ _ _)) | (focus ((with_reducible refine gen_i ?_); intro _ _)) | (with_reducible (fail_if_success fail_if_success refine' kt_go ?_ ?_); refine kt_go (by assumption) ?_)) | (focus ((fail_if_success (fail_if_success (with_reducible refine' sto_go ?_ ?_ ?_ ?_))); (with_reducible refine sto_go (by assumption) (by assumption) (by k_extra "sl") ?_); intro _ _ _)) | ((with_reducible refine exu_go ?_)) | ((with_reducible refine con_go ?_)) | ((with_reducible refine arg_last ?_)) | ((with_reducible refine arg_go ?_)) | (with_reducible (fail_if_success fail_if_success refine' ckf_go ?_ ?_); refine ckf_go (by assumption) ?_) | (with_reducible (fail_if_success fail_if_success refine' ckm_go ?_ ?_); refine ckm_go (by assumption) ?_) | ((with_reducible refine tru_go ?_)) | ((with_reducible refine ifk_t ?_)) | ((with_reducible refine ifk_f0 ?_)) | ((with_reducible refine ifk_f ?_)) | (focus ((with_reducible refine ifk_t' ?_ ?_); (· first | with_reducible rfl | with_reducible exact Bool.not_false))) | (focus ((with_reducible refine ifk_f0' ?_ ?_); (· first | with_reducible rfl | with_reducible exact Bool.not_true))) | (focus ((with_reducible refine ifk_f' ?_ ?_); (· first | with_reducible rfl | with_reducible exact Bool.not_true))) | ((with_reducible refine and_t ?_)) | ((with_reducible refine and_f ?_)) | ((with_reducible refine or_t ?_)) | ((with_reducible refine or_f ?_)) | (focus ((with_reducible refine and_t' ?_ ?_); (· first | with_reducible rfl | with_reducible exact Bool.not_false))) | (focus ((with_reducible refine and_f' ?_ ?_); (· first | with_reducible rfl | with_reducible exact Bool.not_true))) | (focus ((with_reducible refine or_t' ?_ ?_); (· first | with_reducible rfl | with_reducible exact Bool.not_false))) | (focus ((with_reducible refine or_f' ?_ ?_); (· first | with_reducible rfl | with_reducible exact Bool.not_true))) | ((with_reducible refine ife_t ?_)) | ((with_reducible refine ife_f ?_)) | (focus ((fail_if_success (fail_if_success (with_reducible refine' essb_s ?_ ?_ ?_ ?_ ?_))); (with_reducible refine essb_s (by assumption) (by assumption) (by k_extra "ev") (by k_extra "evs") ?_); intro _ _)) | (focus ((fail_if_success (fail_if_success (with_reducible refine' essb_i ?_ ?_ ?_ ?_ ?_))); (with_reducible refine essb_i (by assumption) (by assumption) (by k_extra "ev") (by k_extra "evi") ?_); intro _ _)) | (focus ((fail_if_success (fail_if_success (with_reducible refine' essb_v ?_ ?_ ?_ ?_ ?_))); (with_reducible refine essb_v (by assumption) (by assumption) (by k_extra "ev") (by k_extra "ev") ?_); intro _)) | ((with_reducible refine ssb_un ?_)) | ((with_reducible refine ssb2_un ?_)) | ((with_reducible refine ssb3_un ?_)) | (focus ((fail_if_success (fail_if_success (with_reducible refine' esat ?_ ?_ ?_ ?_))); (with_reducible refine esat (by assumption) (by assumption) (by k_extra "ev") ?_); intro _)) | ((with_reducible refine sat_un ?_)) | ((with_reducible refine sat2_un ?_)) | ((with_reducible refine exs_go ?_)) | ((with_reducible refine unp_un ?_)) | ((with_reducible refine for_un ?_)) | ((with_reducible refine binl_go ?_)) | ((with_reducible refine binr_go ?_)) | ((with_reducible refine subl_go ?_)) | ((with_reducible refine subr_go ?_)) | ((with_reducible refine att_go ?_)) | ((with_reducible refine mth_go ?_)) | ((with_reducible refine cmpl_go ?_)) | ((with_reducible refine cmpr_go ?_)) | ((with_reducible refine tru_un ?_)) | ((with_reducible refine rt_ret ?_)) | ((with_reducible refine rt_next ?_)) | ((with_reducible refine nx_next ?_)) | ((with_reducible refine nx_ret ?_)) | ((with_reducible refine tn_next ?_)) | ((with_reducible refine tn_cont ?_)) | ((with_reducible refine tn_ret ?_)) | ((with_reducible refine ret_go ?_)) | (focus ((with_reducible refine ite_t ?_ ?_); (· first | with_reducible rfl | with_reducible exact Bool.not_false))) | (focus ((with_reducible refine ite_f ?_ ?_); (· first | with_reducible rfl | with_reducible exact Bool.not_true))) | ((with_reducible refine ex_none ?_)) | (focus ((with_reducible refine gen_i ?_); intro _ _)) | (with_reducible (fail_if_success fail_if_success refine' kt_go ?_ ?_); refine kt_go (by assumption) ?_))
  (k_with "callb" => first | (focus ((fail_if_success (fail_if_success (with_reducible refine' er_call ?_ ?_ ?_ ?_ ?_ ?_ ?_ ?_))); (with_reducible refine er_call (by assumption) (by assumption) (by k_extra "gk") ?_ (by k_extra "evl") ?_ ?_ ?_); (· exact Or.inr fun _ z => nomatch z); rotate_left 1; (· with_unfolding_all rfl); (· with_unfolding_all rfl); rotate_right 1; intro _)) | (focus ((fail_if_success (fail_if_success (with_reducible refine' kr_call ?_ ?_ ?_ ?_ ?_ ?_ ?_))); (with_reducible refine kr_call (by assumption) (by assumption) (by k_extra "gk") ?_ ?_ ?_ ?_); (· exact Or.inr fun _ z => nomatch z); rotate_left 1; (· with_unfolding_all rfl); (· with_unfolding_all rfl); rotate_right 1)) | (focus ((fail_if_success (fail_if_success (with_reducible refine' r_call0 ?_ ?_ ?_ ?_ ?_))); (with_reducible refine r_call0 (by assumption) (by assumption) (by k_extra "gk") ?_ ?_); (· exact Or.inr fun _ z => nomatch z))))
  (k_with "callf" => first | (focus ((fail_if_success (fail_if_success (with_reducible refine' er_call ?_ ?_ ?_ ?_ ?_ ?_ ?_ ?_))); (with_reducible refine er_call (by assumption) (by assumption) (by k_extra "gk") ?_ (by k_extra "evl") ?_ ?_ ?_); (· exact Or.inl (by unfold K; k_is)); rotate_left 1; (· with_unfolding_all rfl); (· with_unfolding_all rfl); rotate_right 1; intro _)) | (focus ((fail_if_success (fail_if_success (with_reducible refine' kr_call ?_ ?_ ?_ ?_ ?_ ?_ ?_))); (with_reducible refine kr_call (by assumption) (by assumption) (by k_extra "gk") ?_ ?_ ?_ ?_); (· exact Or.inl (by unfold K; k_is)); rotate_left 1; (· with_unfolding_all rfl); (· with_unfolding_all rfl); rotate_right 1)) | (focus ((fail_if_success (fail_if_success (with_reducible refine' r_call0 ?_ ?_ ?_ ?_ ?_))); (with_reducible refine r_call0 (by assumption) (by assumption) (by k_extra "gk") ?_ ?_); (· exact Or.inl (by unfold K; k_is)))))
  (k_with "callk" => first | (focus ((fail_if_success (fail_if_success (with_reducible refine' er_call ?_ ?_ ?_ ?_ ?_ ?_ ?_ ?_))); (with_reducible refine er_call (by assumption) (by assumption) (by k_extra "gk") (by k_extra "kp") (by k_extra "evl") ?_ ?_ ?_); rotate_left 1; (· with_unfolding_all rfl); (· with_unfolding_all rfl); rotate_right 1; intro _)) | (focus ((fail_if_success (fail_if_success (with_reducible refine' kr_call ?_ ?_ ?_ ?_ ?_ ?_ ?_))); (with_reducible refine kr_call (by assumption) (by assumption) (by k_extra "gk") (by k_extra "kp") ?_ ?_ ?_); rotate_left 1; (· with_unfolding_all rfl); (· with_unfolding_all rfl); rotate_right 1)) | (with_reducible (fail_if_success fail_if_success refine' r_call0 ?_ ?_ ?_ ?_ ?_); refine r_call0 (by assumption) (by assumption) (by k_extra "gk") (by k_extra "kp") ?_))
  (k_with "cwB" => first | (focus ((fail_if_success (fail_if_success (with_reducible refine' emc ?_ ?_ ?_ ?_ ?_ ?_ ?_))); (with_reducible refine emc (by assumption) (by assumption) ?_ (by k_extra "evl") ?_ ?_ ?_); (· exact Or.inr fun _ z => nomatch z); rotate_left 1; (· with_unfolding_all rfl); (· with_unfolding_all rfl); rotate_right 1; intro _)) | (focus ((fail_if_success (fail_if_success (with_reducible refine' kmc_1 ?_ ?_ ?_ ?_ ?_))); (with_reducible refine kmc_1 (by assumption) ?_ ?_ ?_ ?_); (· exact Or.inr fun _ z => nomatch z); rotate_left 1; (· with_unfolding_all rfl); (· with_unfolding_all rfl); rotate_right 1)) | (focus ((fail_if_success (fail_if_success (with_reducible refine' kmc_0 ?_ ?_ ?_ ?_))); (with_reducible refine kmc_0 (by assumption) (by assumption) ?_ ?_); (· exact Or.inr fun _ z => nomatch z))))
  (k_with "cwM" => first | (focus ((fail_if_success (fail_if_success (with_reducible refine' emc ?_ ?_ ?_ ?_ ?_ ?_ ?_))); (with_reducible refine emc (by assumption) (by assumption) (by k_extra "kp") (by k_extra "evl") ?_ ?_ ?_); rotate_left 1; (· with_unfolding_all rfl); (· with_unfolding_all rfl); rotate_right 1; intro _)) | (focus ((fail_if_success (fail_if_success (with_reducible refine' kmc_1 ?_ ?_ ?_ ?_ ?_))); (with_reducible refine kmc_1 (by assumption) (by k_extra "kp") ?_ ?_ ?_); rotate_left 1; (· with_unfolding_all rfl); (· with_unfolding_all rfl); rotate_right 1)) | (with_reducible (fail_if_success fail_if_success refine' kmc_0 ?_ ?_ ?_ ?_); refine kmc_0 (by assumption) (by assumption) (by k_extra "kp") ?_))
  (k_with "itm" => first | (focus ((fail_if_success (fail_if_success (with_reducible refine' r_item ?_ ?_ ?_ ?_ ?_ ?_ ?_))); (with_reducible refine r_item (by assumption) (by k_extra "at") ?_ ?_ (by with_unfolding_all rfl) ?_ ?_); (· first | decide | k_extra "om"); (· first | decide | k_extra "om"); rotate_left 1; (· with_unfolding_all rfl); rotate_right 1)) | (focus ((fail_if_success (fail_if_success (with_reducible refine' r_itemT ?_ ?_ ?_ ?_ ?_ ?_ ?_))); (with_reducible refine r_itemT (by assumption) (by k_extra "at") ?_ ?_ (by with_unfolding_all rfl) ?_ ?_); (· first | decide | k_extra "om"); (· first | decide | k_extra "om"); rotate_left 1; (· with_unfolding_all rfl); rotate_right 1)) | (focus ((fail_if_success (fail_if_success (with_reducible refine' r_itemS ?_ ?_ ?_ ?_ ?_ ?_ ?_))); (with_reducible refine r_itemS (by assumption) (by k_extra "at") ?_ ?_ (by with_unfolding_all rfl) ?_ ?_); (· first | decide | k_extra "om"); (· first | decide | k_extra "om"); rotate_left 1; (· with_unfolding_all rfl); rotate_right 1)))
  (k_with "itm?" => first | (case' _ => (with_reducible apply r_item); (case f => with_reducible assumption); (case hl => k_extra "at"); (case hs => with_unfolding_all rfl)) | (case' _ => (with_reducible apply r_itemT); (case f => with_reducible assumption); (case hl => k_extra "at"); (case hs => with_unfolding_all rfl)) | (case' _ => (with_reducible apply r_itemS); (case f => with_reducible assumption); (case hl => k_extra "at"); (case hs => with_unfolding_all rfl)) | (k_extra "fr"; k_extra "itm?"))
  (k_with "setit" => first | (focus ((fail_if_success (fail_if_success (with_reducible refine' r_setitem ?_ ?_ ?_ ?_ ?_ ?_ ?_))); (with_reducible refine r_setitem (by assumption) (by k_extra "mem") ?_ ?_ ?_ (by k_extra "up") ?_); (· first | decide | k_extra "om"); (· first | decide | (simp only [List.length_cons, List.length_nil]; k_extra "om")); (· first | decide | k_extra "om"); intro _ _)) | (k_extra "fr"; k_extra "setit"))
  (k_with "len" => first | (focus ((fail_if_success (fail_if_success (with_reducible refine' r_len ?_ ?_ ?_ ?_))); (with_reducible refine r_len (by assumption) (by k_extra "at") ?_ ?_); (· first | k_extra "om" | decide); intro _ _)) | (focus ((fail_if_success (fail_if_success (with_reducible refine' r_lenT ?_ ?_ ?_ ?_))); (with_reducible refine r_lenT (by assumption) (by k_extra "at") ?_ ?_); (· first | k_extra "om" | decide); intro _ _)) | (k_extra "fr"; k_extra "len"))
  (k_with "len?" => first | (case' _ => (with_reducible apply r_len); (case f => with_reducible assumption); (case hl => k_extra "at"); (case' q => intro _ _)) | (k_extra "fr"; k_extra "len?"))
  (k_with "lenc" => first | (focus ((fail_if_success (fail_if_success (with_reducible refine' r_len ?_ ?_ ?_ ?_))); (with_reducible refine r_len (by assumption) (by k_extra "at") ?_ ?_); (· with_unfolding_all exact of_decide_eq_true rfl); intro _ _)) | (focus ((fail_if_success (fail_if_success (with_reducible refine' r_lenT ?_ ?_ ?_ ?_))); (with_reducible refine r_lenT (by assumption) (by k_extra "at") ?_ ?_); (· with_unfolding_all exact of_decide_eq_true rfl); intro _ _)) | (k_extra "fr"; k_extra "lenc"))
  (k_with "fr" => first | ((with_reducible refine binr_go ?_)) | ((with_reducible refine subr_go ?_)) | ((with_reducible refine cmpr_go ?_)) | ((with_reducible refine att_go ?_)) | ((with_reducible refine mth_go ?_)) | ((with_reducible refine tru_un ?_)) | ((with_reducible refine for_un ?_)) | ((with_reducible refine unp_un ?_)) | ((with_reducible refine con_go ?_)) | ((with_reducible refine arg_last ?_)) | ((with_reducible refine ssb3_un ?_)) | ((with_reducible refine sat2_un ?_)) | ((with_reducible refine exu_go ?_)))
  (k_with "mod" => first | (focus ((with_reducible refine r_mod ?_ ?_); (· first | decide | k_extra "om"); intro _ _)) | (k_extra "fr"; k_extra "mod"))
  (k_with "div" => first | (focus ((with_reducible refine r_div ?_ ?_ ?_); (· first | decide | k_extra "om"); (· first | decide +kernel | assumption | k_extra "om"); intro _ _)) | (k_extra "fr"; k_extra "div"))
  (k_with "mul" => first | (case' _ => (with_reducible apply r_mul); (case' q => intro _ _)) | (k_extra "fr"; k_extra "mul"))
  (k_with "pow" => first | (case' _ => (with_reducible apply r_pow); (case' q => intro _ _)) | (k_extra "fr"; k_extra "pow"))
  (k_with "pow?" => first | (case' _ => (with_reducible apply r_pow); (case ha => decide); (case' q => intro _ _)) | (k_extra "fr"; k_extra "pow?"))
  (k_with "mkl" => (focus ((fail_if_success (fail_if_success (with_reducible refine' mk_lF ?_ ?_ ?_))); (with_reducible refine mk_lF (by assumption) ?_ ?_); (· first | (with_unfolding_all exact Nat.le_of_ble_eq_true rfl) | k_extra "om"))))
  (k_with "mkt" => (focus ((fail_if_success (fail_if_success (with_reducible refine' mk_tF ?_ ?_ ?_))); (with_reducible refine mk_tF (by assumption) ?_ ?_); (· first | (with_unfolding_all exact Nat.le_of_ble_eq_true rfl) | k_extra "om"))))
  (k_with "mklM" => (focus ((fail_if_success (fail_if_success (with_reducible refine' mk_lM ?_ ?_ ?_))); (with_reducible refine mk_lM (by assumption) ?_ ?_); (· first | (with_unfolding_all exact Nat.le_of_ble_eq_true rfl) | k_extra "om"))))
  (k_with "eqs" => first | (focus ((with_reducible refine r_eqs true ?_ ?_); (· with_unfolding_all rfl))) | (focus ((with_reducible refine r_eqs false ?_ ?_); (· with_unfolding_all rfl))) | (focus ((with_reducible refine r_nes true ?_ ?_); (· with_unfolding_all rfl))) | (focus ((with_reducible refine r_nes false ?_ ?_); (· with_unfolding_all rfl))) | (k_extra "fr"; k_extra "eqs"))
  (k_with "ss2" => first | with_reducible exact Ss.nil | (with_reducible refine Ss.cons (by k_extra "ss2")))
  (k_with "ins" => first | (focus ((fail_if_success (fail_if_success (with_reducible refine' r_inT ?_ ?_ ?_ true ?_ ?_))); (with_reducible refine r_inT (by assumption) (by k_extra "at") (by k_extra "ss2") true ?_ ?_); (· with_unfolding_all rfl))) | (focus ((fail_if_success (fail_if_success (with_reducible refine' r_inT ?_ ?_ ?_ false ?_ ?_))); (with_reducible refine r_inT (by assumption) (by k_extra "at") (by k_extra "ss2") false ?_ ?_); (· with_unfolding_all rfl))) | (k_extra "fr"; k_extra "ins"))
  (k_with "itD" => first | (focus ((fail_if_success (fail_if_success (with_reducible refine' r_itemD (knd := strKind _ _) ?_ ?_ ?_ ?_ ?_ ?_))); (with_reducible refine r_itemD (knd := strKind _ _) (by assumption) (by k_extra "at") (by exact strKind_is _ _ _ _) (by k_extra "ld") ?_ ?_); rotate_left 1; (· with_unfolding_all rfl); rotate_right 1; intro _)) | (focus ((fail_if_success (fail_if_success (with_reducible refine' r_itemD (knd := intKind _ _) ?_ ?_ ?_ ?_ ?_ ?_))); (with_reducible refine r_itemD (knd := intKind _ _) (by assumption) (by k_extra "at") (by exact intKind_is _ _ _ _) (by k_extra "ld") ?_ ?_); rotate_left 1; (· with_unfolding_all rfl); rotate_right 1; intro _)) | (k_extra "fr"; k_extra "itD"))
  (k_with "setD" => first | (focus ((fail_if_success (fail_if_success (with_reducible refine' r_setD (knd := strKind _ _) ?_ ?_ ?_ ?_ ?_ ?_ ?_))); (with_reducible refine r_setD (knd := strKind _ _) (by assumption) (by k_extra "mem") (by exact strKind_is _ _ _ _) (by k_extra "sd") ?_ (by k_extra "up") ?_); (· with_unfolding_all exact Nat.le_of_ble_eq_true rfl); intro _ _ _)) | (focus ((fail_if_success (fail_if_success (with_reducible refine' r_setD (knd := intKind _ _) ?_ ?_ ?_ ?_ ?_ ?_ ?_))); (with_reducible refine r_setD (knd := intKind _ _) (by assumption) (by k_extra "mem") (by exact intKind_is _ _ _ _) (by k_extra "sd") ?_ (by k_extra "up") ?_); (· with_unfolding_all exact Nat.le_of_ble_eq_true rfl); intro _ _ _)) | (k_extra "fr"; k_extra "setD"))
  (k_with "setDn" => first | (focus ((fail_if_success (fail_if_success (with_reducible refine' r_setDn (knd := strKind _ _) ?_ ?_ ?_ ?_ ?_ ?_ ?_))); (with_reducible refine r_setDn (knd := strKind _ _) (by assumption) (by k_extra "mem") (by exact strKind_is _ _ _ _) ?_ ?_ (by k_extra "up") ?_); (· with_unfolding_all rfl); (· with_unfolding_all exact Nat.le_of_ble_eq_true rfl); intro _ _ _)) | (k_extra "fr"; k_extra "setDn"))
  (k_with "gmA" => first | (with_reducible (fail_if_success fail_if_success refine' gm_append ?_ ?_ ?_); refine gm_append (by assumption) (by k_extra "mem") ?_) | (k_extra "fr"; k_extra "gmA"))
  (k_with "app" => first | (case' _ => (with_reducible apply r_append); (case f => with_reducible assumption); (case hl => k_extra "mem"); (case u => k_extra "up"); (case' q => intro _ _)) | (k_extra "fr"; k_extra "app"))
  (k_with "kt" => first | (with_reducible (fail_if_success fail_if_success refine' kt_go ?_ ?_); refine kt_go (by assumption) ?_) | ((with_reducible refine unp_un ?_)) | ((with_reducible refine sto_un ?_)))
  (k_with "un" => first | (focus ((fail_if_success (fail_if_success (with_reducible refine' un_2 ?_ ?_ ?_ ?_))); (with_reducible refine un_2 ?_ (by assumption) (by k_extra "at") ?_); (· k_extra "hd"); intro _ _)) | (focus ((fail_if_success (fail_if_success (with_reducible refine' un_3 ?_ ?_ ?_ ?_))); (with_reducible refine un_3 ?_ (by assumption) (by k_extra "at") ?_); (· k_extra "hd"); intro _ _)) | (k_extra "kt"; k_extra "un"))
  (k_with "ss" => repeat (first | k_extra "s" | k_extra "itm"))
  (k_with "atr" => (focus ((fail_if_success (fail_if_success (with_reducible refine' r_attr ?_ ?_ ?_ ?_ ?_ ?_ ?_))); (with_reducible refine r_attr (by assumption) (by k_extra "fz") (by k_extra "at") (by k_extra "fo") (by k_extra "lk") ?_ ?_); (· first | (with_unfolding_all rfl) | assumption); intro _)))
  (k_with "sat" => (focus ((fail_if_success (fail_if_success (with_reducible refine' r_setattr ?_ ?_ ?_ ?_ ?_ ?_ ?_ ?_))); (with_reducible refine r_setattr (by assumption) (by k_extra "fz") (by k_extra "mem") (by k_extra "so") (by k_extra "sl") (by k_extra "up") ?_ ?_); (· with_unfolding_all exact Nat.le_of_ble_eq_true rfl); intro _ _ _)))
  (k_with "gm" => (focus ((fail_if_success (fail_if_success (with_reducible refine' gm_inst ?_ ?_ ?_ ?_ ?_ ?_))); (with_reducible refine gm_inst (by assumption) (by k_extra "fz") (by k_extra "at") (by k_extra "mo") ?_ ?_); (· with_unfolding_all rfl))))
  (k_with "st" => repeat (first | k_extra "s" | k_extra "itm" | k_extra "atr" | k_extra "gm" | k_extra "itD" | k_extra "cwM" | k_extra "cwB"))
  (k_with "sf" => repeat (first | k_extra "s" | k_extra "itm" | k_extra "atr" | k_extra "gm" | k_extra "itD" | k_extra "cwM" | k_extra "s2" | k_extra "cwB"))
  (k_with "sfS" => repeat (first | k_extra "sS" | k_extra "s" | k_extra "itm" | k_extra "atr" | k_extra "gm" | k_extra "itD" | k_extra "cwM" | k_extra "s2" | k_extra "cwB"))
  (k_with "sg" => repeat (first | k_extra "s" | k_extra "itm" | k_extra "atr" | k_extra "gmd" | k_extra "gmm" | k_extra "gm" | k_extra "itD" | k_extra "cwM" | k_extra "s2" | k_extra "cwB"))
  (k_with "se" => repeat (first | k_extra "s" | k_extra "itm" | k_extra "atr" | k_extra "gmd" | k_extra "gmm" | k_extra "gm" | k_extra "itD" | k_extra "cwM" | k_extra "cwB"))
  (k_with "dp" => repeat (first | k_extra "s" | k_extra "itm" | k_extra "atr" | k_extra "gmd" | k_extra "gmm" | k_extra "gm" | k_extra "itD" | k_extra "cwM" | k_extra "s2" | k_extra "eqs" | (k_extra "mkt"; intro _ _ _ _ _ _) | k_extra "ins" | k_extra "itn" | k_extra "cwB"))
  (k_with "lp" => repeat (first | k_extra "s" | k_extra "itm" | k_extra "atr" | k_extra "gm" | k_extra "itD" | k_extra "cwM" | k_extra "eqs" | k_extra "ins" | k_extra "cwB"))
  (k_with "isi" => first | (focus ((fail_if_success (fail_if_success (with_reducible refine' isi_int ?_ ?_ ?_))); (with_reducible refine isi_int (by assumption) (by k_extra "kit") ?_); intro _)) | (focus ((fail_if_success (fail_if_success (with_reducible refine' isi_own ?_ ?_ ?_ ?_ ?_ ?_))); (with_reducible refine isi_own (by assumption) (by k_extra "fz") (by k_extra "at") (by k_extra "ki") (by k_extra "kit") ?_); intro _)) | (focus ((fail_if_success (fail_if_success (with_reducible refine' isi_list ?_ ?_ ?_ ?_))); (with_reducible refine isi_list (by assumption) (by k_extra "at") (by k_extra "kit") ?_); intro _)) | (k_extra "fr"; k_extra "isi"))
  (k_with "max" => first | (focus ((fail_if_success (fail_if_success (with_reducible refine' r_max ?_ ?_ ?_))); (with_reducible refine r_max ?_ (by assumption) ?_); (· k_extra "hd"); intro _ _ _ _)) | (k_extra "fr"; k_extra "max"))
  (k_with "byt" => first | (case' _ => (with_reducible apply r_bytes); (case f => with_reducible assumption); (case hh => k_extra "hd"); (case hl => k_extra "at"); (case' q => intro _ _ _ _)) | (k_extra "fr"; k_extra "byt"))
  (k_with "rng" => first | (with_reducible (fail_if_success fail_if_success refine' r_range1 ?_ ?_); refine r_range1 (by assumption) ?_) | (with_reducible (fail_if_success fail_if_success refine' r_range2 ?_ ?_); refine r_range2 (by assumption) ?_) | (k_extra "fr"; k_extra "rng"))
  (k_with "sum" => first | (case' _ => (with_reducible apply r_sum); (case f => with_reducible assumption); (case hh => k_extra "hd"); (case hl => k_extra "at"); (case' q => intro _ _ _ _)) | (k_extra "fr"; k_extra "sum"))
  (k_with "dS" => (focus ((fail_if_success (fail_if_success (with_reducible refine' r_dict (strKind _ _) ?_ ?_ ?_ ?_ ?_ ?_))); (with_reducible refine r_dict (strKind _ _) (by assumption) ?_ ?_ ?_ ?_ ?_); (· with_unfolding_all rfl); (· with_unfolding_all rfl); (· exact List.cons_ne_nil _ _); (· decide))))
  (k_with "dI" => (focus ((fail_if_success (fail_if_success (with_reducible refine' r_dict (intKind _ _) ?_ ?_ ?_ ?_ ?_ ?_))); (with_reducible refine r_dict (intKind _ _) (by assumption) ?_ ?_ ?_ ?_ ?_); (· with_unfolding_all rfl); (· with_unfolding_all rfl); (· exact List.cons_ne_nil _ _); (· decide))))
  (k_with "cr" => first | with_reducible exact Cr.nil | (with_reducible (fail_if_success fail_if_success refine' Cr.cons ?_ ?_); refine Cr.cons (by first | exact strKind_is _ _ _ _ | exact intKind_is _ _ _ _) (by k_extra "cr")))
  (k_with "mkd" => (focus ((fail_if_success (fail_if_success (with_reducible refine' mk_d ?_ ?_ ?_ ?_ ?_ ?_))); (with_reducible refine mk_d (by assumption) (by k_extra "mem") (by k_extra "cr") ?_ (by k_extra "up") ?_); (· with_unfolding_all exact of_decide_eq_true rfl); intro _ _ _)))
  (k_with "gmG" => first | (with_reducible (fail_if_success fail_if_success refine' gm_get (knd := strKind _ _) ?_ ?_ ?_); refine gm_get (knd := strKind _ _) (by assumption) (by k_extra "at") ?_) | (with_reducible (fail_if_success fail_if_success refine' gm_get (knd := intKind _ _) ?_ ?_ ?_); refine gm_get (knd := intKind _ _) (by assumption) (by k_extra "at") ?_) | (k_extra "fr"; k_extra "gmG"))
  (k_with "get" => first | (focus ((fail_if_success (fail_if_success (with_reducible refine' r_get2s (knd := intKind _ _) ?_ ?_ ?_ ?_ ?_ ?_))); (with_reducible refine r_get2s (knd := intKind _ _) (by assumption) (by k_extra "at") (by assumption) (by exact intKind_is _ _ _ _) (by k_extra "ld") ?_); intro _)) | (focus ((fail_if_success (fail_if_success (with_reducible refine' r_get2n (knd := intKind _ _) ?_ ?_ ?_ ?_ ?_ ?_))); (with_reducible refine r_get2n (knd := intKind _ _) (by assumption) (by k_extra "at") (by assumption) (by exact intKind_is _ _ _ _) ?_ ?_); (· with_unfolding_all rfl); intro _)) | (k_extra "fr"; k_extra "get"))
  (k_with "itc" => first | refine' ite_t rfl ?_ | refine' ite_f rfl ?_)
  (k_with "s2" => first | ((with_reducible refine r_isnoneI ?_)) | (focus ((with_reducible refine c_chain ?_ ?_); rotate_left 1; (· with_unfolding_all rfl); rotate_right 1)) | (focus ((with_reducible refine t_chain ?_ ?_); rotate_left 1; (· with_unfolding_all rfl); rotate_right 1)) | ((with_reducible refine v_and ?_)) | ((with_reducible refine v_or ?_)) | ((with_reducible refine v_one ?_)) | ((with_reducible refine r_ge ?_)))
  (k_with "tt" => ((repeat refine tt_cons rfl ?_); exact tt_nil))
  (k_with "cut0" => first | (focus ((fail_if_success (fail_if_success (with_reducible refine' cut0 ?_ ?_))); (with_reducible refine cut0 (by assumption) ?_); intro _ _ _)) | (k_extra "fr"; k_extra "cut0"))
  (k_with "sS" => (focus ((with_reducible refine r_sliceS0 ?_ ?_ ?_); rotate_left 1; (· with_unfolding_all exact fun _ => rfl); (· with_unfolding_all exact fun _ _ => rfl); rotate_right 1)))
  (k_with "fo" => with_reducible first | exact fo_Decimal_top | exact fo_Decimal_places | exact fo_Name_text | exact fo_String_octets | exact fo_Matrix_a | exact fo_Matrix_b | exact fo_Matrix_c | exact fo_Matrix_d | exact fo_Matrix_e | exact fo_Matrix_f | exact fo_Operation_word | exact fo_Operation_operands | exact fo_Glyph_text | exact fo_Glyph_x | exact fo_Glyph_y | exact fo_Glyph_width | exact fo_Glyph_size | exact fo_TextSheet_operations | exact fo_TextSheet_fonts | exact fo_TextSheet_own | exact fo_TextState_ctm | exact fo_TextState_font | exact fo_TextState_size | exact fo_TextState_spacing | exact fo_TextWalk_sheet | exact fo_TextWalk_state | exact fo_TextWalk_pile | exact fo_TextWalk_row | exact fo_TextWalk_place | exact fo_TextWalk_found | exact fo_CMap_chars | exact fo_Font_names | exact fo_Font_cutting | exact fo_Font_unicode | exact fo_Font_rows | exact fo_Font_default | exact fo_Font_unit | exact fo_Font_standard)
  (k_with "so" => with_reducible first | exact so_Decimal_top | exact so_Decimal_places | exact so_Name_text | exact so_String_octets | exact so_String_is_hex | exact so_Matrix_a | exact so_Matrix_b | exact so_Matrix_c | exact so_Matrix_d | exact so_Matrix_e | exact so_Matrix_f | exact so_Operation_word | exact so_Operation_operands | exact so_Glyph_text | exact so_Glyph_x | exact so_Glyph_y | exact so_Glyph_width | exact so_Glyph_size | exact so_TextSheet_operations | exact so_TextSheet_fonts | exact so_TextSheet_forms | exact so_TextSheet_own | exact so_TextState_ctm | exact so_TextState_font | exact so_TextState_size | exact so_TextState_spacing | exact so_TextWalk_sheet | exact so_TextWalk_state | exact so_TextWalk_pile | exact so_TextWalk_row | exact so_TextWalk_place | exact so_TextWalk_found | exact so_CMap_spaces | exact so_CMap_chars | exact so_Font_names | exact so_Font_cutting | exact so_Font_unicode | exact so_Font_rows | exact so_Font_default | exact so_Font_unit | exact so_Font_standard)
  (k_with "mo" => with_reducible first | exact mo_Decimal_plus | exact mo_Decimal_times | exact mo_Decimal_negated | exact mo_Decimal_told | exact mo_Matrix_times | exact mo_Matrix_applied | exact mo_Matrix_shifted | exact mo_Glyph_told | exact mo_TextState_copied | exact mo_TextState_stretched | exact mo_TextWalk_show | exact mo_TextWalk_show_parts | exact mo_TextWalk_next_row | exact mo_TextWalk_feed | exact mo_TextWalk_set_matrix | exact mo_Font_codes | exact mo_Font_width | exact mo_Font_text)
  (k_with "kp" => with_reducible first | exact kp_167 | exact kp_94 | exact kp_108 | exact kp_115 | exact kp_150 | exact kp_209 | exact kp_231 | exact kp_360 | exact kp_331 | exact kp_338 | exact kp_345 | exact kp_407 | exact kp_449 | exact kp_446 | exact kp_470 | exact kp_505 | exact kp_495 | exact kp_502 | exact kp_589 | exact kp_558 | exact kp_565 | exact kp_572 | exact kp_579 | exact kp_586 | exact kp_650 | exact kp_787 | exact kp_770 | exact kp_777 | exact kp_784 | exact kp_185 | exact kp_192 | exact kp_291 | exact kp_298 | exact kp_371 | exact kp_378 | exact kp_385 | exact kp_418 | exact kp_423 | exact kp_516 | exact kp_523 | exact kp_530 | exact kp_537 | exact kp_600 | exact kp_607 | exact kp_614 | exact kp_621 | exact kp_628 | exact kp_737 | exact kp_730 | exact kp_798 | exact kp_806 | exact kp_813 | exact kp_820 | exact kp_825 | exact kp_832 | exact kp_839 | exact kp_846 | exact kp_853 | exact kp_860 | exact kp_867 | exact kp_872 | exact kp_879 | exact kp_884 | exact kp_891)
  (k_with "ki" => with_reducible first | exact ki_Decimal | exact ki_Name | exact ki_String)
  (k_with "kit" => with_reducible first | exact kit_self | exact kt_int_Decimal | exact kt_int_bool | exact kt_Decimal_bool | exact kt_Decimal_int | exact kt_Name_bool | exact kt_Name_int | exact kt_Name_Decimal | exact kt_String_bool | exact kt_String_int | exact kt_String_Decimal | exact kt_String_Name)
  (k_with "mulT" => first | (with_reducible (fail_if_success fail_if_success refine' r_mulT2 ?_ ?_ ?_); refine r_mulT2 (by assumption) (by k_extra "at") ?_) | (with_reducible (fail_if_success fail_if_success refine' r_mulT6 ?_ ?_ ?_); refine r_mulT6 (by assumption) (by k_extra "at") ?_) | (k_extra "fr"; k_extra "mulT"))
  (k_with "gmE" => first | (with_reducible (fail_if_success fail_if_success refine' gm_extend ?_ ?_ ?_); refine gm_extend (by assumption) (by k_extra "mem") ?_) | (k_extra "fr"; k_extra "gmE"))
  (k_with "ext" => first | (case' _ => (with_reducible apply r_extend); (case f => with_reducible assumption); (case hl => k_extra "mem"); (case hb => k_extra "at"); (case u => k_extra "up"); (case' q => intro _ _)) | (k_extra "fr"; k_extra "ext"))
  (k_with "addL" => first | (case' _ => (with_reducible apply r_addL); (case f => with_reducible assumption); (case hl => k_extra "at"); (case hb => k_extra "at")) | (k_extra "fr"; k_extra "addL"))
  (k_with "eqL0" => first | (with_reducible (fail_if_success fail_if_success refine' r_eqL0 ?_ ?_ ?_ ?_ ?_); refine r_eqL0 (by assumption) (by assumption) (by k_extra "at") (by k_extra "at") ?_) | (k_extra "fr"; k_extra "eqL0"))
  (k_with "ninD" => first | (case' _ => (with_reducible apply r_notinD (knd := strKind _ _)); (case f => with_reducible assumption); (case hl => k_extra "at"); (case hk => exact strKind_is _ _ _ _); (case ns => with_reducible assumption)) | (k_extra "fr"; k_extra "ninD"))
  (k_with "inD" => first | (case' _ => (with_reducible apply r_inD (knd := strKind _ _)); (case f => with_reducible assumption); (case hl => k_extra "at"); (case hk => exact strKind_is _ _ _ _); (case ns => with_reducible assumption)) | (k_extra "fr"; k_extra "inD"))
  (k_with "itDv" => first | (case' _ => (with_reducible apply r_itemDv (knd := strKind _ _)); (case f => with_reducible assumption); (case hl => k_extra "at"); (case hk => exact strKind_is _ _ _ _); (case hs => with_unfolding_all rfl)) | (k_extra "fr"; k_extra "itDv"))
  (k_with "kp" => with_reducible first | exact kp_694 | exact kp_699 | exact kp_720 | exact kp_725)
  (k_with "inL" => first | (case' _ => (with_reducible apply r_inL); (case f => with_reducible assumption); (case hl => k_extra "at")) | (k_extra "fr"; k_extra "inL"))
  (k_with "itn" => first | (focus ((fail_if_success (fail_if_success (with_reducible refine' r_itemN ?_ ?_ ?_ ?_ ?_ ?_ ?_ ?_))); (with_reducible refine r_itemN (by assumption) (by k_extra "at") ?_ ?_ ?_ (by with_unfolding_all rfl) ?_ (by with_unfolding_all rfl)); (· decide); (· with_unfolding_all exact of_decide_eq_true rfl); (· decide))) | (k_extra "fr"; k_extra "itn"))
  (k_with "dcp" => first | (case' _ => (with_reducible apply r_dcopy (knd := strKind _ _)); (case f => with_reducible assumption); (case hl => k_extra "at"); (case hz => with_unfolding_all exact Nat.le_of_ble_eq_true rfl)) | (k_extra "fr"; k_extra "dcp"))
  (k_with "gmP" => first | (with_reducible (fail_if_success fail_if_success refine' gm_pop ?_ ?_ ?_); refine gm_pop (by assumption) (by k_extra "mem") ?_) | (k_extra "fr"; k_extra "gmP"))
  (k_with "pop" => first | (case' _ => (with_reducible apply r_pop); (case f => with_reducible assumption); (case hl => k_extra "mem"); (case u => k_extra "up"); (case' q => intro _ _)) | (k_extra "fr"; k_extra "pop"))
  (k_with "cDec" => first | (case' _ => (with_reducible apply c_Dec); (case f => with_reducible assumption); (case hR => k_extra "room"); (case hP => rfl)) | (case' _ => (with_reducible apply c_Dec); (case f => with_reducible assumption); (case hR => k_extra "room")))
  (k_with "cDecof" => (focus ((fail_if_success (fail_if_success (with_reducible refine' c_decof ?_ ?_ ?_ ?_))); (with_reducible refine c_decof ?_ (by assumption) (by k_extra "num") ?_); (· k_extra "room"))))
  (k_with "cScale" => (case' _ => (with_reducible apply c_scale); (case f => with_reducible assumption); (case hR => k_extra "room"); (case n1 => k_extra "num"); (case n2 => k_extra "num")))
  (k_with "cPlus" => (case' _ => (with_reducible apply c_plus); (case f => with_reducible assumption); (case hR => k_extra "room"); (case n1 => k_extra "DecV"); (case n2 => k_extra "num")))
  (k_with "cTimes" => (case' _ => (with_reducible apply c_times); (case f => with_reducible assumption); (case hR => k_extra "room"); (case n1 => k_extra "DecV"); (case n2 => k_extra "num")))
  (k_with "cNeg" => (focus ((fail_if_success (fail_if_success (with_reducible refine' c_neg ?_ ?_ ?_ ?_))); (with_reducible refine c_neg ?_ (by assumption) (by k_extra "DecV") ?_); (· k_extra "room"))))
  (k_with "cDtold" => (focus ((fail_if_success (fail_if_success (with_reducible refine' c_dtold ?_ ?_ ?_ ?_))); (with_reducible refine c_dtold ?_ (by assumption) (by k_extra "DecV") ?_); (· k_extra "room"))))
  (k_with "cDraw" => (focus ((fail_if_success (fail_if_success (with_reducible refine' c_draw ?_ ?_ ?_ ?_ ?_ ?_ ?_))); (with_reducible refine c_draw ?_ (by assumption) (by k_extra "tk") (by k_extra "tape") ?_ ?_ ?_); (· k_extra "room"); (· first | decide | k_extra "om"); (· k_extra "om"))))
  (k_with "cUnit" => (focus ((fail_if_success (fail_if_success (with_reducible refine' c_unit ?_ ?_ ?_))); (with_reducible refine c_unit ?_ (by assumption) ?_); (· k_extra "room"))))
  (k_with "cNumber" => (focus ((fail_if_success (fail_if_success (with_reducible refine' c_number ?_ ?_ ?_ ?_ ?_ ?_))); (with_reducible refine c_number ?_ (by assumption) (by k_extra "tk") (by k_extra "tape") ?_ ?_); (· k_extra "room"); (· k_extra "om"))))
  (k_with "cOctets" => (focus ((fail_if_success (fail_if_success (with_reducible refine' c_octets ?_ ?_ ?_ ?_ ?_ ?_))); (with_reducible refine c_octets ?_ (by assumption) (by k_extra "tk") (by k_extra "tape") ?_ ?_); (· k_extra "room"); (· k_extra "om"))))
  (k_with "cProd" => (case' _ => (with_reducible apply c_prod); (case f => with_reducible assumption); (case hR => k_extra "room"); (case k1 => k_extra "LMat"); (case k2 => k_extra "LMat")))
  (k_with "cShift" => (case' _ => (with_reducible apply c_shift); (case f => with_reducible assumption); (case hR => k_extra "room")))
  (k_with "cSix" => (case' _ => (with_reducible apply c_six); (case f => with_reducible assumption); (case hR => k_extra "room"); (case hs => k_extra "fz")))
  (k_with "cCode" => (case' _ => (with_reducible apply c_code); (case f => with_reducible assumption); (case hR => k_extra "room")))
  (k_with "cLshow" => (case' _ => (with_reducible apply c_lshow); (case f => with_reducible assumption); (case hR => k_extra "room"); (case t => k_extra "tk")))
  (k_with "mkName" => (focus ((fail_if_success (fail_if_success (with_reducible refine' c_mk_Name ?_ ?_ ?_))); (with_reducible refine c_mk_Name ?_ (by assumption) ?_); (· k_extra "room"))))
  (k_with "mkOperation" => (focus ((fail_if_success (fail_if_success (with_reducible refine' c_mk_Operation ?_ ?_ ?_))); (with_reducible refine c_mk_Operation ?_ (by assumption) ?_); (· k_extra "room"))))
  (k_with "mkGlyph" => (focus ((fail_if_success (fail_if_success (with_reducible refine' c_mk_Glyph ?_ ?_ ?_))); (with_reducible refine c_mk_Glyph ?_ (by assumption) ?_); (· k_extra "room"))))
  (k_with "mkTextSheet" => (focus ((fail_if_success (fail_if_success (with_reducible refine' c_mk_TextSheet ?_ ?_ ?_))); (with_reducible refine c_mk_TextSheet ?_ (by assumption) ?_); (· k_extra "room"))))
  (k_with "mkCMap" => (focus ((fail_if_success (fail_if_success (with_reducible refine' c_mk_CMap ?_ ?_ ?_))); (with_reducible refine c_mk_CMap ?_ (by assumption) ?_); (· k_extra "room"))))
  (k_with "mkFont" => (focus ((fail_if_success (fail_if_success (with_reducible refine' c_mk_Font ?_ ?_ ?_))); (with_reducible refine c_mk_Font ?_ (by assumption) ?_); (· k_extra "room"))))
  (k_with "mkString" => (focus ((fail_if_success (fail_if_success (with_reducible refine' c_mk_String ?_ ?_ ?_))); (with_reducible refine c_mk_String ?_ (by assumption) ?_); (· k_extra "room"))))
  (k_with "gmd" => (focus ((fail_if_success (fail_if_success (with_reducible refine' gm_dec ?_ ?_ ?_ ?_ ?_))); (with_reducible refine gm_dec (by assumption) (by k_extra "DecV") (by k_extra "mo") ?_ ?_); (· with_unfolding_all rfl))))
  (k_with "gmm" => (focus ((fail_if_success (fail_if_success (with_reducible refine' gm_mat ?_ ?_ ?_ ?_ ?_))); (with_reducible refine gm_mat (by assumption) (by k_extra "MatV") (by k_extra "mo") ?_ ?_); (· with_unfolding_all rfl))))
  (k_with "mkMat" => (focus ((fail_if_success (fail_if_success (with_reducible refine' c_mk_Mat ?_ ?_ ?_ ?_ ?_ ?_ ?_ ?_ ?_))); (with_reducible refine c_mk_Mat ?_ (by assumption) (by k_extra "num") (by k_extra "num") (by k_extra "num") (by k_extra "num") (by k_extra "num") (by k_extra "num") ?_); (· k_extra "room"))))
  (k_with "cShifted" => (case' _ => (with_reducible apply c_shifted); (case f => with_reducible assumption); (case hR => k_extra "room"); (case km => k_extra "MatV"); (case kx => k_extra "num"); (case ky => k_extra "num")))
  (k_with "cApplied" => (case' _ => (with_reducible apply c_applied); (case f => with_reducible assumption); (case hR => k_extra "room"); (case km => k_extra "MatV"); (case kx => k_extra "num"); (case ky => k_extra "num")))
  (k_with "cMtimes" => (case' _ => (with_reducible apply c_mtimes); (case f => with_reducible assumption); (case hR => k_extra "room"); (case km => k_extra "MatV"); (case kn => k_extra "MatV")))
  (k_with "cIdentity" => (focus ((fail_if_success (fail_if_success (with_reducible refine' c_identity ?_ ?_ ?_))); (with_reducible refine c_identity ?_ (by assumption) ?_); (· k_extra "room"))))
  (k_with "cTranslation" => (focus ((fail_if_success (fail_if_success (with_reducible refine' c_translation ?_ ?_ ?_ ?_ ?_))); (with_reducible refine c_translation ?_ (by assumption) (by k_extra "num") (by k_extra "num") ?_); (· k_extra "room"))))
  (k_with "cLrow" => (case' _ => (with_reducible apply c_lrow); (case f => with_reducible assumption); (case hR => k_extra "room"); (case t => k_extra "tk")))
  (k_with "cLparts" => (case' _ => (with_reducible apply c_lparts); (case f => with_reducible assumption); (case hR => k_extra "room"); (case t => k_extra "tk"); (case hc => k_extra "tape"); (case hk => k_extra "om")))
  (k_with "cKindN" => (focus ((fail_if_success (fail_if_success (with_reducible refine' c_kindN ?_ ?_ ?_ ?_))); (with_reducible refine c_kindN ?_ (by assumption) (by k_extra "num") ?_); (· k_extra "room"))))
  (k_with "cKindName" => (case' _ => (with_reducible apply c_kindName); (case f => with_reducible assumption); (case hR => k_extra "room")))
  (k_with "cKindStr" => (case' _ => (with_reducible apply c_kindStr); (case f => with_reducible assumption); (case hR => k_extra "room")))
  (k_with "cIsnum" => (focus ((fail_if_success (fail_if_success (with_reducible refine' c_isnum ?_ ?_ ?_ ?_))); (with_reducible refine c_isnum ?_ (by assumption) (by k_extra "num") ?_); (· k_extra "room"))))
  (k_with "cIsnumS" => (case' _ => (with_reducible apply c_isnumS); (case f => with_reducible assumption); (case hR => k_extra "room")))
  (k_with "sz" => first | with_reducible exact Sz.nil | (with_reducible (fail_if_success fail_if_success refine' Sz.cons ?_); refine Sz.cons (by k_extra "sz")))
  (k_with "setK" => first | (case' _ => (with_reducible apply r_setDn (knd := strKind _ _)); (case f => with_reducible assumption); (case hl => k_extra "mem"); (case hk => exact strKind_is _ _ _ _); (case u => k_extra "up"); (case' q => intro _ _ _)) | (k_extra "fr"; k_extra "setK"))
  (k_with "cFits" => (case' _ => (with_reducible apply c_fits); (case f => with_reducible assumption); (case hR => k_extra "room")))
  (k_with "cCheck" => (case' _ => (with_reducible apply c_check); (case f => with_reducible assumption); (case hR => k_extra "room"); (case t => k_extra "tk"); (case ns => with_reducible assumption)))
  (k_with "gmS" => first | ((with_reducible refine gm_str PySem.F.slot_str_split PySem.F.type_str_split ?_)) | ((with_reducible refine gm_str PySem.F.slot_str_join PySem.F.type_str_join ?_)) | ((with_reducible refine gm_str PySem.F.slot_str_lower PySem.F.type_str_lower ?_)) | (k_extra "fr"; k_extra "gmS"))
  (k_with "wds" => first | (case' _ => (with_reducible apply r_words); (case f => with_reducible assumption)) | (k_extra "fr"; k_extra "wds"))
  (k_with "chr" => first | (case' _ => (with_reducible apply r_chr); (case' q => intro _ _)) | (k_extra "fr"; k_extra "chr"))
  (k_with "setL" => first | (case' _ => (with_reducible apply r_setL); (case f => with_reducible assumption); (case hl => k_extra "mem"); (case h0 => first | decide | k_extra "om"); (case hk' => first | decide | k_extra "om"); (case u' => k_extra "up"); (case' q => intro _ _)) | (k_extra "fr"; k_extra "setL"))
  (k_with "cAscii" => (focus ((fail_if_success (fail_if_success (with_reducible refine' c_ascii ?_ ?_ ?_))); (with_reducible refine c_ascii ?_ (by assumption) ?_); (· k_extra "room"))))
  (k_with "cLatin" => (focus ((fail_if_success (fail_if_success (with_reducible refine' c_latin ?_ ?_ ?_))); (with_reducible refine c_latin ?_ (by assumption) ?_); (· k_extra "room"))))
  (k_with "spl" => first | (case' _ => (with_reducible apply r_split1); (case f => with_reducible assumption)) | (k_extra "fr"; k_extra "spl"))
  (k_with "cKnown" => (case' _ => (with_reducible apply c_known); (case f => with_reducible assumption); (case hR => k_extra "room")))
  (k_with "cPart" => (case' _ => (with_reducible apply c_part); (case f => with_reducible assumption); (case hR => k_extra "room")))
  (k_with "cGtext" => (case' _ => (with_reducible apply c_gtext); (case f => with_reducible assumption); (case hR => k_extra "room")))
  (k_with "cWin" => (case' _ => (with_reducible apply c_widthin); (case f => with_reducible assumption); (case hR => k_extra "room")))
  (k_with "trT0" => first | (focus ((fail_if_success (fail_if_success (with_reducible refine' r_truthT0 ?_ ?_ ?_))); (with_reducible refine r_truthT0 (by assumption) (by k_extra "at") ?_); intro _)) | (k_extra "fr"; k_extra "trT0"))
  (k_with "cCodes" => (case' _ => (with_reducible apply c_codes); (case f => with_reducible assumption); (case hR => k_extra "room")))
  (k_with "cFwidth" => (case' _ => (with_reducible apply c_fwidth); (case f => with_reducible assumption); (case hR => k_extra "room")))
  (k_with "cFtext" => (case' _ => (with_reducible apply c_ftext); (case f => with_reducible assumption); (case hR => k_extra "room")))
  (k_with "mkState" => (focus ((fail_if_success (fail_if_success (with_reducible refine' c_mk_state ?_ ?_ ?_ ?_))); (with_reducible refine c_mk_state ?_ (by assumption) (by k_extra "MatV") ?_); (· k_extra "room"))))
  (k_with "cStr" => (case' _ => (with_reducible apply c_stretched); (case f => with_reducible assumption); (case hR => k_extra "room"); (case t => k_extra "tk"); (case kw => k_extra "DecV")))
  (k_with "cAlong" => (case' _ => (with_reducible apply c_along); (case f => with_reducible assumption); (case hR => k_extra "room"); (case kp => k_extra "MatV"); (case kw => k_extra "DecV")))
  (k_with "cAdv" => (case' _ => (with_reducible apply c_advance); (case f => with_reducible assumption); (case hR => k_extra "room"); (case t => k_extra "tk")))
  (k_with "cShown" => (case' _ => (with_reducible apply c_shown); (case f => with_reducible assumption); (case hR => k_extra "room"); (case t => k_extra "tk"); (case kp => k_extra "MatV")))
  (k_with "cTset" => (focus ((fail_if_success (fail_if_success (with_reducible refine' c_tset ?_ ?_ ?_ ?_ ?_))); (with_reducible refine c_tset ?_ (by assumption) (by k_extra "fz") (by k_extra "tk") ?_); (· k_extra "room"))))
  (k_with "cTnext" => (case' _ => (with_reducible apply c_tnext); (case f => with_reducible assumption); (case hR => k_extra "room"); (case ho => k_extra "fz"); (case t => k_extra "tk"); (case kr => k_extra "MatV"); (case kx => k_extra "num"); (case ky => k_extra "num")))
  (k_with "cTfeed" => (case' _ => (with_reducible apply c_tfeed); (case f => with_reducible assumption); (case hR => k_extra "room"); (case ho => k_extra "fz"); (case t => k_extra "tk"); (case cs => k_extra "CsV"); (case kr => k_extra "MatV")))
  (k_with "cTshow" => (case' _ => (with_reducible apply c_tshow); (case f => with_reducible assumption); (case hR => k_extra "room"); (case ho => k_extra "fz"); (case t => k_extra "tk"); (case cs => k_extra "CsV"); (case kp => k_extra "MatV")))
  (k_with "cTfeedA" => (case' _ => (with_reducible apply c_tfeed); (case f => with_reducible assumption); (case cs => with_reducible assumption); (case hR => k_extra "room"); (case ho => k_extra "fz"); (case t => k_extra "tk"); (case kr => k_extra "MatV")))
  (k_with "cTshowA" => (case' _ => (with_reducible apply c_tshow); (case f => with_reducible assumption); (case cs => with_reducible assumption); (case hR => k_extra "room"); (case ho => k_extra "fz"); (case t => k_extra "tk"); (case kp => k_extra "MatV")))
  (k_with "cTparts" => (case' _ => (with_reducible apply c_tparts); (case f => with_reducible assumption); (case hR => k_extra "room"); (case ho => k_extra "fz"); (case t => k_extra "tk"); (case cs => k_extra "CsV"); (case kp => k_extra "MatV"); (case hD => k_extra "fz")))
  (k_with "cArray" => (case' _ => (with_reducible apply c_array); (case f => with_reducible assumption); (case hR => k_extra "room"); (case hD => k_extra "fz")))
  (k_with "cPlaced" => (case' _ => (with_reducible apply c_placed); (case f => with_reducible assumption); (case hR => k_extra "room"); (case ho => k_extra "fz"); (case t => k_extra "tk")))
  (k_with "cCopied" => (case' _ => (with_reducible apply c_copied); (case f => with_reducible assumption); (case hR => k_extra "room"); (case t => k_extra "tk")))
  (k_with "cChoose" => (case' _ => (with_reducible apply c_choose); (case f => with_reducible assumption); (case hR => k_extra "room"); (case ho => k_extra "fz"); (case t => k_extra "tk")))
  (k_with "cSave" => (case' _ => (with_reducible apply c_save); (case f => with_reducible assumption); (case hR => k_extra "room"); (case ho => k_extra "fz"); (case t => k_extra "tk")))
  (k_with "cRestore" => (case' _ => (with_reducible apply c_restore); (case f => with_reducible assumption); (case hR => k_extra "room"); (case ho => k_extra "fz"); (case t => k_extra "tk")))
  (k_with "cBT" => (case' _ => (with_reducible apply c_bt); (case f => with_reducible assumption); (case hR => k_extra "room"); (case ho => k_extra "fz"); (case t => k_extra "tk")))
  (k_with "cCm" => (case' _ => (with_reducible apply c_cm); (case f => with_reducible assumption); (case hR => k_extra "room"); (case ho => k_extra "fz"); (case t => k_extra "tk")))
  (k_with "mkWalk" => (focus ((fail_if_success (fail_if_success (with_reducible refine' c_mk_walk ?_ ?_ ?_))); (with_reducible refine c_mk_walk ?_ (by assumption) ?_); (· k_extra "room"))))
  (k_with "cGtold" => (case' _ => (with_reducible apply c_gtold); (case f => with_reducible assumption); (case hR => k_extra "room")))
  (k_with "cLrow2" => (case' _ => (with_reducible apply c_lrow2); (case f => with_reducible assumption); (case hR => k_extra "room"); (case t => k_extra "tk")))
  (k_with "cLshowA" => (case' _ => (with_reducible apply c_lshow); (case f => with_reducible assumption); (case hl => with_reducible assumption); (case hR => k_extra "room"); (case t => k_extra "tk")))
  (k_with "dH" => (focus ((fail_if_success (fail_if_success (with_reducible refine' r_dictH (n := 1) ?_ ?_ ?_ ?_ ?_ ?_ ?_))); (with_reducible refine r_dictH (n := 1) ?_ (by assumption) ?_ ?_ ?_ ?_ ?_); (· k_extra "room"); (· with_unfolding_all rfl); (· with_unfolding_all rfl); (· exact List.cons_ne_nil _ _); (· decide))))
  (k_with "cSame" => (case' _ => (with_reducible apply c_same); (case f => with_reducible assumption); (case hR => k_extra "room"); (case tv => k_extra "TolV")))
  trivial
set_option Elab.async true
theorem mk_Decimal : MakeOk 167 87 := ⟨by unfold K; k_is, by unfold K; k_is, by unfold K; k_is⟩ in
theorem fo_Decimal_top : FldOk 167 "top" := ⟨by unfold K; k_is, by unfold K; k_is, ⟨none, by unfold K; k_is, rfl⟩⟩ in
theorem so_Decimal_top : SetOk 167 "top" := ⟨by unfold K; k_is, by unfold K; k_is, by unfold K; k_is, by unfold K; k_is⟩
in #guard_msgs in open Nat
theorem fo_Decimal_places : FldOk 167 "places" := ⟨by unfold K; k_is, by unfold K; k_is, ⟨none, by unfold K; k_is, rfl⟩⟩ in
theorem so_Decimal_places : SetOk 167 "places" := ⟨by unfold K; k_is, by unfold K; k_is, by unfold K; k_is, by unfold K; k_is⟩ in
theorem mo_Decimal_plus : MthOk 167 "plus" 94 := ⟨by unfold K; k_is, by unfold K; k_is, by unfold K; k_is⟩
in #guard_msgs in open Nat
theorem mo_Decimal_times : MthOk 167 "times" 108 := ⟨by unfold K; k_is, by unfold K; k_is, by unfold K; k_is⟩ in
theorem mo_Decimal_negated : MthOk 167 "negated" 115 := ⟨by unfold K; k_is, by unfold K; k_is, by unfold K; k_is⟩ in
theorem mo_Decimal_told : MthOk 167 "told" 150 := ⟨by unfold K; k_is, by unfold K; k_is, by unfold K; k_is⟩
in #guard_msgs in open Nat
theorem mk_Name : MakeOk 209 206 := ⟨by unfold K; k_is, by unfold K; k_is, by unfold K; k_is⟩ in
theorem fo_Name_text : FldOk 209 "text" := ⟨by unfold K; k_is, by unfold K; k_is, ⟨none, by unfold K; k_is, rfl⟩⟩ in
theorem so_Name_text : SetOk 209 "text" := ⟨by unfold K; k_is, by unfold K; k_is, by unfold K; k_is, by unfold K; k_is⟩
in #guard_msgs in open Nat
theorem mk_String : MakeOk 231 228 := ⟨by unfold K; k_is, by unfold K; k_is, by unfold K; k_is⟩ in
theorem fo_String_octets : FldOk 231 "octets" := ⟨by unfold K; k_is, by unfold K; k_is, ⟨none, by unfold K; k_is, rfl⟩⟩ in
theorem so_String_octets : SetOk 231 "octets" := ⟨by unfold K; k_is, by unfold K; k_is, by unfold K; k_is, by unfold K; k_is⟩
in #guard_msgs in open Nat
theorem so_String_is_hex : SetOk 231 "is_hex" := ⟨by unfold K; k_is, by unfold K; k_is, by unfold K; k_is, by unfold K; k_is⟩ in
theorem mk_Matrix : MakeOk 360 324 := ⟨by unfold K; k_is, by unfold K; k_is, by unfold K; k_is⟩ in
theorem fo_Matrix_a : FldOk 360 "a" := ⟨by unfold K; k_is, by unfold K; k_is, ⟨none, by unfold K; k_is, rfl⟩⟩
in #guard_msgs in open Nat
theorem so_Matrix_a : SetOk 360 "a" := ⟨by unfold K; k_is, by unfold K; k_is, by unfold K; k_is, by unfold K; k_is⟩ in
theorem fo_Matrix_b : FldOk 360 "b" := ⟨by unfold K; k_is, by unfold K; k_is, ⟨none, by unfold K; k_is, rfl⟩⟩ in
theorem so_Matrix_b : SetOk 360 "b" := ⟨by unfold K; k_is, by unfold K; k_is, by unfold K; k_is, by unfold K; k_is⟩
in #guard_msgs in open Nat
theorem fo_Matrix_c : FldOk 360 "c" := ⟨by unfold K; k_is, by unfold K; k_is, ⟨none, by unfold K; k_is, rfl⟩⟩ in
theorem so_Matrix_c : SetOk 360 "c" := ⟨by unfold K; k_is, by unfold K; k_is, by unfold K; k_is, by unfold K; k_is⟩ in
theorem fo_Matrix_d : FldOk 360 "d" := ⟨by unfold K; k_is, by unfold K; k_is, ⟨none, by unfold K; k_is, rfl⟩⟩
in #guard_msgs in open Nat
theorem so_Matrix_d : SetOk 360 "d" := ⟨by unfold K; k_is, by unfold K; k_is, by unfold K; k_is, by unfold K; k_is⟩ in
theorem fo_Matrix_e : FldOk 360 "e" := ⟨by unfold K; k_is, by unfold K; k_is, ⟨none, by unfold K; k_is, rfl⟩⟩ in
theorem so_Matrix_e : SetOk 360 "e" := ⟨by unfold K; k_is, by unfold K; k_is, by unfold K; k_is, by unfold K; k_is⟩
in #guard_msgs in open Nat
theorem fo_Matrix_f : FldOk 360 "f" := ⟨by unfold K; k_is, by unfold K; k_is, ⟨none, by unfold K; k_is, rfl⟩⟩ in
theorem so_Matrix_f : SetOk 360 "f" := ⟨by unfold K; k_is, by unfold K; k_is, by unfold K; k_is, by unfold K; k_is⟩ in
theorem mo_Matrix_times : MthOk 360 "times" 331 := ⟨by unfold K; k_is, by unfold K; k_is, by unfold K; k_is⟩
in #guard_msgs in open Nat
theorem mo_Matrix_applied : MthOk 360 "applied" 338 := ⟨by unfold K; k_is, by unfold K; k_is, by unfold K; k_is⟩ in
theorem mo_Matrix_shifted : MthOk 360 "shifted" 345 := ⟨by unfold K; k_is, by unfold K; k_is, by unfold K; k_is⟩ in
theorem mk_Operation : MakeOk 407 399 := ⟨by unfold K; k_is, by unfold K; k_is, by unfold K; k_is⟩
in #guard_msgs in open Nat
theorem fo_Operation_word : FldOk 407 "word" := ⟨by unfold K; k_is, by unfold K; k_is, ⟨none, by unfold K; k_is, rfl⟩⟩ in
theorem so_Operation_word : SetOk 407 "word" := ⟨by unfold K; k_is, by unfold K; k_is, by unfold K; k_is, by unfold K; k_is⟩ in
theorem fo_Operation_operands : FldOk 407 "operands" := ⟨by unfold K; k_is, by unfold K; k_is, ⟨none, by unfold K; k_is, rfl⟩⟩
in #guard_msgs in open Nat
theorem so_Operation_operands : SetOk 407 "operands" := ⟨by unfold K; k_is, by unfold K; k_is, by unfold K; k_is, by unfold K; k_is⟩ in
theorem mk_Glyph : MakeOk 449 439 := ⟨by unfold K; k_is, by unfold K; k_is, by unfold K; k_is⟩ in
theorem fo_Glyph_text : FldOk 449 "text" := ⟨by unfold K; k_is, by unfold K; k_is, ⟨none, by unfold K; k_is, rfl⟩⟩
in #guard_msgs in open Nat
theorem so_Glyph_text : SetOk 449 "text" := ⟨by unfold K; k_is, by unfold K; k_is, by unfold K; k_is, by unfold K; k_is⟩ in
theorem fo_Glyph_x : FldOk 449 "x" := ⟨by unfold K; k_is, by unfold K; k_is, ⟨none, by unfold K; k_is, rfl⟩⟩ in
theorem so_Glyph_x : SetOk 449 "x" := ⟨by unfold K; k_is, by unfold K; k_is, by unfold K; k_is, by unfold K; k_is⟩
in #guard_msgs in open Nat
theorem fo_Glyph_y : FldOk 449 "y" := ⟨by unfold K; k_is, by unfold K; k_is, ⟨none, by unfold K; k_is, rfl⟩⟩ in
theorem so_Glyph_y : SetOk 449 "y" := ⟨by unfold K; k_is, by unfold K; k_is, by unfold K; k_is, by unfold K; k_is⟩ in
theorem fo_Glyph_width : FldOk 449 "width" := ⟨by unfold K; k_is, by unfold K; k_is, ⟨none, by unfold K; k_is, rfl⟩⟩
in #guard_msgs in open Nat
theorem so_Glyph_width : SetOk 449 "width" := ⟨by unfold K; k_is, by unfold K; k_is, by unfold K; k_is, by unfold K; k_is⟩ in
theorem fo_Glyph_size : FldOk 449 "size" := ⟨by unfold K; k_is, by unfold K; k_is, ⟨none, by unfold K; k_is, rfl⟩⟩ in
theorem so_Glyph_size : SetOk 449 "size" := ⟨by unfold K; k_is, by unfold K; k_is, by unfold K; k_is, by unfold K; k_is⟩
in #guard_msgs in open Nat
theorem mo_Glyph_told : MthOk 449 "told" 446 := ⟨by unfold K; k_is, by unfold K; k_is, by unfold K; k_is⟩ in
theorem mk_TextSheet : MakeOk 470 467 := ⟨by unfold K; k_is, by unfold K; k_is, by unfold K; k_is⟩ in
theorem fo_TextSheet_operations : FldOk 470 "operations" := ⟨by unfold K; k_is, by unfold K; k_is, ⟨none, by unfold K; k_is, rfl⟩⟩
in #guard_msgs in open Nat
theorem so_TextSheet_operations : SetOk 470 "operations" := ⟨by unfold K; k_is, by unfold K; k_is, by unfold K; k_is, by unfold K; k_is⟩ in
theorem fo_TextSheet_fonts : FldOk 470 "fonts" := ⟨by unfold K; k_is, by unfold K; k_is, ⟨none, by unfold K; k_is, rfl⟩⟩ in
theorem so_TextSheet_fonts : SetOk 470 "fonts" := ⟨by unfold K; k_is, by unfold K; k_is, by unfold K; k_is, by unfold K; k_is⟩
in #guard_msgs in open Nat
theorem so_TextSheet_forms : SetOk 470 "forms" := ⟨by unfold K; k_is, by unfold K; k_is, by unfold K; k_is, by unfold K; k_is⟩ in
theorem fo_TextSheet_own : FldOk 470 "own" := ⟨by unfold K; k_is, by unfold K; k_is, ⟨none, by unfold K; k_is, rfl⟩⟩ in
theorem so_TextSheet_own : SetOk 470 "own" := ⟨by unfold K; k_is, by unfold K; k_is, by unfold K; k_is, by unfold K; k_is⟩
in #guard_msgs in open Nat
theorem mk_TextState : MakeOk 505 488 := ⟨by unfold K; k_is, by unfold K; k_is, by unfold K; k_is⟩ in
theorem fo_TextState_ctm : FldOk 505 "ctm" := ⟨by unfold K; k_is, by unfold K; k_is, ⟨none, by unfold K; k_is, rfl⟩⟩ in
theorem so_TextState_ctm : SetOk 505 "ctm" := ⟨by unfold K; k_is, by unfold K; k_is, by unfold K; k_is, by unfold K; k_is⟩
in #guard_msgs in open Nat
theorem fo_TextState_font : FldOk 505 "font" := ⟨by unfold K; k_is, by unfold K; k_is, ⟨none, by unfold K; k_is, rfl⟩⟩ in
theorem so_TextState_font : SetOk 505 "font" := ⟨by unfold K; k_is, by unfold K; k_is, by unfold K; k_is, by unfold K; k_is⟩ in
theorem fo_TextState_size : FldOk 505 "size" := ⟨by unfold K; k_is, by unfold K; k_is, ⟨none, by unfold K; k_is, rfl⟩⟩
in #guard_msgs in open Nat
theorem so_TextState_size : SetOk 505 "size" := ⟨by unfold K; k_is, by unfold K; k_is, by unfold K; k_is, by unfold K; k_is⟩ in
theorem fo_TextState_spacing : FldOk 505 "spacing" := ⟨by unfold K; k_is, by unfold K; k_is, ⟨none, by unfold K; k_is, rfl⟩⟩ in
theorem so_TextState_spacing : SetOk 505 "spacing" := ⟨by unfold K; k_is, by unfold K; k_is, by unfold K; k_is, by unfold K; k_is⟩
in #guard_msgs in open Nat
theorem mo_TextState_copied : MthOk 505 "copied" 495 := ⟨by unfold K; k_is, by unfold K; k_is, by unfold K; k_is⟩ in
theorem mo_TextState_stretched : MthOk 505 "stretched" 502 := ⟨by unfold K; k_is, by unfold K; k_is, by unfold K; k_is⟩ in
theorem mk_TextWalk : MakeOk 589 551 := ⟨by unfold K; k_is, by unfold K; k_is, by unfold K; k_is⟩
in #guard_msgs in open Nat
theorem fo_TextWalk_sheet : FldOk 589 "sheet" := ⟨by unfold K; k_is, by unfold K; k_is, ⟨none, by unfold K; k_is, rfl⟩⟩ in
theorem so_TextWalk_sheet : SetOk 589 "sheet" := ⟨by unfold K; k_is, by unfold K; k_is, by unfold K; k_is, by unfold K; k_is⟩ in
theorem fo_TextWalk_state : FldOk 589 "state" := ⟨by unfold K; k_is, by unfold K; k_is, ⟨none, by unfold K; k_is, rfl⟩⟩
in #guard_msgs in open Nat
theorem so_TextWalk_state : SetOk 589 "state" := ⟨by unfold K; k_is, by unfold K; k_is, by unfold K; k_is, by unfold K; k_is⟩ in
theorem fo_TextWalk_pile : FldOk 589 "pile" := ⟨by unfold K; k_is, by unfold K; k_is, ⟨none, by unfold K; k_is, rfl⟩⟩ in
theorem so_TextWalk_pile : SetOk 589 "pile" := ⟨by unfold K; k_is, by unfold K; k_is, by unfold K; k_is, by unfold K; k_is⟩
in #guard_msgs in open Nat
theorem fo_TextWalk_row : FldOk 589 "row" := ⟨by unfold K; k_is, by unfold K; k_is, ⟨none, by unfold K; k_is, rfl⟩⟩ in
theorem so_TextWalk_row : SetOk 589 "row" := ⟨by unfold K; k_is, by unfold K; k_is, by unfold K; k_is, by unfold K; k_is⟩ in
theorem fo_TextWalk_place : FldOk 589 "place" := ⟨by unfold K; k_is, by unfold K; k_is, ⟨none, by unfold K; k_is, rfl⟩⟩
in #guard_msgs in open Nat
theorem so_TextWalk_place : SetOk 589 "place" := ⟨by unfold K; k_is, by unfold K; k_is, by unfold K; k_is, by unfold K; k_is⟩ in
theorem fo_TextWalk_found : FldOk 589 "found" := ⟨by unfold K; k_is, by unfold K; k_is, ⟨none, by unfold K; k_is, rfl⟩⟩ in
theorem so_TextWalk_found : SetOk 589 "found" := ⟨by unfold K; k_is, by unfold K; k_is, by unfold K; k_is, by unfold K; k_is⟩
in #guard_msgs in open Nat
theorem mo_TextWalk_show : MthOk 589 "show" 558 := ⟨by unfold K; k_is, by unfold K; k_is, by unfold K; k_is⟩ in
theorem mo_TextWalk_show_parts : MthOk 589 "show_parts" 565 := ⟨by unfold K; k_is, by unfold K; k_is, by unfold K; k_is⟩ in
theorem mo_TextWalk_next_row : MthOk 589 "next_row" 572 := ⟨by unfold K; k_is, by unfold K; k_is, by unfold K; k_is⟩
in #guard_msgs in open Nat
theorem mo_TextWalk_feed : MthOk 589 "feed" 579 := ⟨by unfold K; k_is, by unfold K; k_is, by unfold K; k_is⟩ in
theorem mo_TextWalk_set_matrix : MthOk 589 "set_matrix" 586 := ⟨by unfold K; k_is, by unfold K; k_is, by unfold K; k_is⟩ in
theorem mk_CMap : MakeOk 650 642 := ⟨by unfold K; k_is, by unfold K; k_is, by unfold K; k_is⟩
in #guard_msgs in open Nat
theorem so_CMap_spaces : SetOk 650 "spaces" := ⟨by unfold K; k_is, by unfold K; k_is, by unfold K; k_is, by unfold K; k_is⟩ in
theorem fo_CMap_chars : FldOk 650 "chars" := ⟨by unfold K; k_is, by unfold K; k_is, ⟨none, by unfold K; k_is, rfl⟩⟩ in
theorem so_CMap_chars : SetOk 650 "chars" := ⟨by unfold K; k_is, by unfold K; k_is, by unfold K; k_is, by unfold K; k_is⟩
in #guard_msgs in open Nat
theorem mk_Font : MakeOk 787 765 := ⟨by unfold K; k_is, by unfold K; k_is, by unfold K; k_is⟩ in
theorem fo_Font_names : FldOk 787 "names" := ⟨by unfold K; k_is, by unfold K; k_is, ⟨none, by unfold K; k_is, rfl⟩⟩ in
theorem so_Font_names : SetOk 787 "names" := ⟨by unfold K; k_is, by unfold K; k_is, by unfold K; k_is, by unfold K; k_is⟩
in #guard_msgs in open Nat
theorem fo_Font_cutting : FldOk 787 "cutting" := ⟨by unfold K; k_is, by unfold K; k_is, ⟨none, by unfold K; k_is, rfl⟩⟩ in
theorem so_Font_cutting : SetOk 787 "cutting" := ⟨by unfold K; k_is, by unfold K; k_is, by unfold K; k_is, by unfold K; k_is⟩ in
theorem fo_Font_unicode : FldOk 787 "unicode" := ⟨by unfold K; k_is, by unfold K; k_is, ⟨none, by unfold K; k_is, rfl⟩⟩
in #guard_msgs in open Nat
theorem so_Font_unicode : SetOk 787 "unicode" := ⟨by unfold K; k_is, by unfold K; k_is, by unfold K; k_is, by unfold K; k_is⟩ in
theorem fo_Font_rows : FldOk 787 "rows" := ⟨by unfold K; k_is, by unfold K; k_is, ⟨none, by unfold K; k_is, rfl⟩⟩ in
theorem so_Font_rows : SetOk 787 "rows" := ⟨by unfold K; k_is, by unfold K; k_is, by unfold K; k_is, by unfold K; k_is⟩
in #guard_msgs in open Nat
theorem fo_Font_default : FldOk 787 "default" := ⟨by unfold K; k_is, by unfold K; k_is, ⟨none, by unfold K; k_is, rfl⟩⟩ in
theorem so_Font_default : SetOk 787 "default" := ⟨by unfold K; k_is, by unfold K; k_is, by unfold K; k_is, by unfold K; k_is⟩ in
theorem fo_Font_unit : FldOk 787 "unit" := ⟨by unfold K; k_is, by unfold K; k_is, ⟨none, by unfold K; k_is, rfl⟩⟩
in #guard_msgs in open Nat
theorem so_Font_unit : SetOk 787 "unit" := ⟨by unfold K; k_is, by unfold K; k_is, by unfold K; k_is, by unfold K; k_is⟩ in
theorem fo_Font_standard : FldOk 787 "standard" := ⟨by unfold K; k_is, by unfold K; k_is, ⟨none, by unfold K; k_is, rfl⟩⟩ in
theorem so_Font_standard : SetOk 787 "standard" := ⟨by unfold K; k_is, by unfold K; k_is, by unfold K; k_is, by unfold K; k_is⟩
in #guard_msgs in open Nat
theorem mo_Font_codes : MthOk 787 "codes" 770 := ⟨by unfold K; k_is, by unfold K; k_is, by unfold K; k_is⟩ in
theorem mo_Font_width : MthOk 787 "width" 777 := ⟨by unfold K; k_is, by unfold K; k_is, by unfold K; k_is⟩ in
theorem mo_Font_text : MthOk 787 "text" 784 := ⟨by unfold K; k_is, by unfold K; k_is, by unfold K; k_is⟩
in #guard_msgs in open Nat
theorem kp_167 : Kp (.ref 167) := .inl (by unfold K; k_is) in
theorem kp_94 : Kp (.ref 94) := .inl (by unfold K; k_is) in
theorem kp_108 : Kp (.ref 108) := .inl (by unfold K; k_is) in
theorem kp_115 : Kp (.ref 115) := .inl (by unfold K; k_is) in
theorem kp_150 : Kp (.ref 150) := .inl (by unfold K; k_is) in
theorem kp_209 : Kp (.ref 209) := .inl (by unfold K; k_is)
in #guard_msgs in open Nat
theorem kp_231 : Kp (.ref 231) := .inl (by unfold K; k_is) in
theorem kp_360 : Kp (.ref 360) := .inl (by unfold K; k_is) in
theorem kp_331 : Kp (.ref 331) := .inl (by unfold K; k_is) in
theorem kp_338 : Kp (.ref 338) := .inl (by unfold K; k_is) in
theorem kp_345 : Kp (.ref 345) := .inl (by unfold K; k_is) in
theorem kp_407 : Kp (.ref 407) := .inl (by unfold K; k_is)
in #guard_msgs in open Nat
theorem kp_449 : Kp (.ref 449) := .inl (by unfold K; k_is) in
theorem kp_446 : Kp (.ref 446) := .inl (by unfold K; k_is) in
theorem kp_470 : Kp (.ref 470) := .inl (by unfold K; k_is) in
theorem kp_505 : Kp (.ref 505) := .inl (by unfold K; k_is) in
theorem kp_495 : Kp (.ref 495) := .inl (by unfold K; k_is) in
theorem kp_502 : Kp (.ref 502) := .inl (by unfold K; k_is)
in #guard_msgs in open Nat
theorem kp_589 : Kp (.ref 589) := .inl (by unfold K; k_is) in
theorem kp_558 : Kp (.ref 558) := .inl (by unfold K; k_is) in
theorem kp_565 : Kp (.ref 565) := .inl (by unfold K; k_is) in
theorem kp_572 : Kp (.ref 572) := .inl (by unfold K; k_is) in
theorem kp_579 : Kp (.ref 579) := .inl (by unfold K; k_is) in
theorem kp_586 : Kp (.ref 586) := .inl (by unfold K; k_is)
in #guard_msgs in open Nat
theorem kp_650 : Kp (.ref 650) := .inl (by unfold K; k_is) in
theorem kp_787 : Kp (.ref 787) := .inl (by unfold K; k_is) in
theorem kp_770 : Kp (.ref 770) := .inl (by unfold K; k_is) in
theorem kp_777 : Kp (.ref 777) := .inl (by unfold K; k_is) in
theorem kp_784 : Kp (.ref 784) := .inl (by unfold K; k_is) in
theorem kp_185 : Kp (.ref 185) := .inl (by unfold K; k_is)
in #guard_msgs in open Nat
theorem kp_192 : Kp (.ref 192) := .inl (by unfold K; k_is) in
theorem kp_291 : Kp (.ref 291) := .inl (by unfold K; k_is) in
theorem kp_298 : Kp (.ref 298) := .inl (by unfold K; k_is) in
theorem kp_371 : Kp (.ref 371) := .inl (by unfold K; k_is) in
theorem kp_378 : Kp (.ref 378) := .inl (by unfold K; k_is) in
theorem kp_385 : Kp (.ref 385) := .inl (by unfold K; k_is)
in #guard_msgs in open Nat
theorem kp_418 : Kp (.ref 418) := .inl (by unfold K; k_is) in
theorem kp_423 : Kp (.ref 423) := .inl (by unfold K; k_is) in
theorem kp_516 : Kp (.ref 516) := .inl (by unfold K; k_is) in
theorem kp_523 : Kp (.ref 523) := .inl (by unfold K; k_is) in
theorem kp_530 : Kp (.ref 530) := .inl (by unfold K; k_is) in
theorem kp_537 : Kp (.ref 537) := .inl (by unfold K; k_is)
in #guard_msgs in open Nat
theorem kp_600 : Kp (.ref 600) := .inl (by unfold K; k_is) in
theorem kp_607 : Kp (.ref 607) := .inl (by unfold K; k_is) in
theorem kp_614 : Kp (.ref 614) := .inl (by unfold K; k_is) in
theorem kp_621 : Kp (.ref 621) := .inl (by unfold K; k_is) in
theorem kp_628 : Kp (.ref 628) := .inl (by unfold K; k_is) in
theorem kp_737 : Kp (.ref 737) := .inl (by unfold K; k_is)
in #guard_msgs in open Nat
theorem kp_730 : Kp (.ref 730) := .inl (by unfold K; k_is) in
theorem kp_798 : Kp (.ref 798) := .inl (by unfold K; k_is) in
theorem kp_806 : Kp (.ref 806) := .inl (by unfold K; k_is) in
theorem kp_813 : Kp (.ref 813) := .inl (by unfold K; k_is) in
theorem kp_820 : Kp (.ref 820) := .inl (by unfold K; k_is) in
theorem kp_825 : Kp (.ref 825) := .inl (by unfold K; k_is)
in #guard_msgs in open Nat
theorem kp_832 : Kp (.ref 832) := .inl (by unfold K; k_is) in
theorem kp_839 : Kp (.ref 839) := .inl (by unfold K; k_is) in
theorem kp_846 : Kp (.ref 846) := .inl (by unfold K; k_is) in
theorem kp_853 : Kp (.ref 853) := .inl (by unfold K; k_is) in
theorem kp_860 : Kp (.ref 860) := .inl (by unfold K; k_is) in
theorem kp_867 : Kp (.ref 867) := .inl (by unfold K; k_is)
in #guard_msgs in open Nat
theorem kp_872 : Kp (.ref 872) := .inl (by unfold K; k_is) in
theorem kp_879 : Kp (.ref 879) := .inl (by unfold K; k_is) in
theorem kp_884 : Kp (.ref 884) := .inl (by unfold K; k_is) in
theorem kp_891 : Kp (.ref 891) := .inl (by unfold K; k_is) in
theorem gv_Decimal : Gv "Decimal" (.ref 167) := .own (by unfold K; k_is)
in #guard_msgs in open Nat
theorem gv_Name : Gv "Name" (.ref 209) := .own (by unfold K; k_is) in
theorem gv_String : Gv "String" (.ref 231) := .own (by unfold K; k_is) in
theorem gv_Matrix : Gv "Matrix" (.ref 360) := .own (by unfold K; k_is) in
theorem gv_Operation : Gv "Operation" (.ref 407) := .own (by unfold K; k_is) in
theorem gv_Glyph : Gv "Glyph" (.ref 449) := .own (by unfold K; k_is)
in #guard_msgs in open Nat
theorem gv_TextSheet : Gv "TextSheet" (.ref 470) := .own (by unfold K; k_is) in
theorem gv_TextState : Gv "TextState" (.ref 505) := .own (by unfold K; k_is) in
theorem gv_TextWalk : Gv "TextWalk" (.ref 589) := .own (by unfold K; k_is) in
theorem gv_CMap : Gv "CMap" (.ref 650) := .own (by unfold K; k_is) in
theorem gv_Font : Gv "Font" (.ref 787) := .own (by unfold K; k_is)
in #guard_msgs in open Nat
theorem gv_decimal_of : Gv "decimal_of" (.ref 185) := .own (by unfold K; k_is) in
theorem gv_at_one_scale : Gv "at_one_scale" (.ref 192) := .own (by unfold K; k_is) in
theorem gv_kind_of : Gv "kind_of" (.ref 291) := .own (by unfold K; k_is) in
theorem gv_is_number : Gv "is_number" (.ref 298) := .own (by unfold K; k_is)
in #guard_msgs in open Nat
theorem gv_identity : Gv "identity" (.ref 371) := .own (by unfold K; k_is) in
theorem gv_translation : Gv "translation" (.ref 378) := .own (by unfold K; k_is) in
theorem gv_from_array : Gv "from_array" (.ref 385) := .own (by unfold K; k_is) in
theorem gv_text_kinds : Gv "text_kinds" (.ref 418) := .own (by unfold K; k_is)
in #guard_msgs in open Nat
theorem gv_fits_kind : Gv "fits_kind" (.ref 423) := .own (by unfold K; k_is) in
theorem gv_advance : Gv "advance" (.ref 516) := .own (by unfold K; k_is) in
theorem gv_along : Gv "along" (.ref 523) := .own (by unfold K; k_is) in
theorem gv_shown_glyphs : Gv "shown_glyphs" (.ref 530) := .own (by unfold K; k_is) in
theorem gv_check_operands : Gv "check_operands" (.ref 537) := .own (by unfold K; k_is)
in #guard_msgs in open Nat
theorem gv_follow_placed : Gv "follow_placed" (.ref 600) := .own (by unfold K; k_is) in
theorem gv_choose_font : Gv "choose_font" (.ref 607) := .own (by unfold K; k_is) in
theorem gv_follow_state : Gv "follow_state" (.ref 614) := .own (by unfold K; k_is) in
theorem gv_sheet_glyphs : Gv "sheet_glyphs" (.ref 621) := .own (by unfold K; k_is)
in #guard_msgs in open Nat
theorem gv_lay_glyphs : Gv "lay_glyphs" (.ref 628) := .own (by unfold K; k_is) in
theorem gv_width_in : Gv "width_in" (.ref 737) := .own (by unfold K; k_is) in
theorem gv_glyph_text : Gv "glyph_text" (.ref 730) := .own (by unfold K; k_is) in
theorem gv__law_unit : Gv "_law_unit" (.ref 798) := .own (by unfold K; k_is)
in #guard_msgs in open Nat
theorem gv__law_draw : Gv "_law_draw" (.ref 806) := .own (by unfold K; k_is) in
theorem gv__law_number : Gv "_law_number" (.ref 813) := .own (by unfold K; k_is) in
theorem gv__law_octets : Gv "_law_octets" (.ref 820) := .own (by unfold K; k_is) in
theorem gv__law_product : Gv "_law_product" (.ref 825) := .own (by unfold K; k_is)
in #guard_msgs in open Nat
theorem gv__law_shift : Gv "_law_shift" (.ref 832) := .own (by unfold K; k_is) in
theorem gv__law_six : Gv "_law_six" (.ref 839) := .own (by unfold K; k_is) in
theorem gv__law_fonts : Gv "_law_fonts" (.ref 846) := .own (by unfold K; k_is) in
theorem gv__law_code : Gv "_law_code" (.ref 853) := .own (by unfold K; k_is)
in #guard_msgs in open Nat
theorem gv__law_show : Gv "_law_show" (.ref 860) := .own (by unfold K; k_is) in
theorem gv__law_row : Gv "_law_row" (.ref 867) := .own (by unfold K; k_is) in
theorem gv__law_outside : Gv "_law_outside" (.ref 872) := .own (by unfold K; k_is) in
theorem gv__law_parts : Gv "_law_parts" (.ref 879) := .own (by unfold K; k_is)
in #guard_msgs in open Nat
theorem gv__law_step : Gv "_law_step" (.ref 884) := .own (by unfold K; k_is) in
theorem gv__law_same : Gv "_law_same" (.ref 891) := .own (by unfold K; k_is) in
theorem gv_PLACED_WORDS : Gv "PLACED_WORDS" (.ref 424) := .own (by unfold K; k_is) in
theorem gv_SPACING_WORDS : Gv "SPACING_WORDS" (.ref 425) := .own (by unfold K; k_is)
in #guard_msgs in open Nat
theorem gv__law_words : Gv "_law_words" (.ref 799) := .own (by unfold K; k_is) in
theorem gv_len : Gv "len" (.builtin "len") := .bi (by unfold K; k_is) boot_len (by decide) in
theorem gv_isinstance : Gv "isinstance" (.builtin "isinstance") := .bi (by unfold K; k_is) boot_isinstance (by decide) in
theorem gv_max : Gv "max" (.builtin "max") := .bi (by unfold K; k_is) boot_max (by decide)
in #guard_msgs in open Nat
theorem gv_sum : Gv "sum" (.builtin "sum") := .bi (by unfold K; k_is) boot_sum (by decide) in
theorem gv_range : Gv "range" (.type "range") := .bi (by unfold K; k_is) boot_range (by decide) in
theorem gv_list : Gv "list" (.type "list") := .bi (by unfold K; k_is) boot_list (by decide) in
theorem gv_dict : Gv "dict" (.type "dict") := .bi (by unfold K; k_is) boot_dict (by decide)
in #guard_msgs in open Nat
theorem gv_bytes : Gv "bytes" (.type "bytes") := .bi (by unfold K; k_is) boot_bytes (by decide) in
theorem gv_bool : Gv "bool" (.type "bool") := .bi (by unfold K; k_is) boot_bool (by decide) in
theorem gv_int : Gv "int" (.type "int") := .bi (by unfold K; k_is) boot_int (by decide) in
theorem ki_Decimal : KiOk 167 := ⟨by unfold K; k_is, by unfold K; k_is, by unfold K; k_is, by unfold K; k_is, by unfold K; k_is, by unfold K; k_is⟩
in #guard_msgs in open Nat
theorem ki_Name : KiOk 209 := ⟨by unfold K; k_is, by unfold K; k_is, by unfold K; k_is, by unfold K; k_is, by unfold K; k_is, by unfold K; k_is⟩ in
theorem ki_String : KiOk 231 := ⟨by unfold K; k_is, by unfold K; k_is, by unfold K; k_is, by unfold K; k_is, by unfold K; k_is, by unfold K; k_is⟩ in
theorem kt_int_Decimal : kitOne K (.type "int") (.ref 167) = some false := kit_ref (by decide) (by unfold K; k_is) (by unfold K; k_is) (by unfold K; k_is)
in #guard_msgs in open Nat
theorem kt_int_bool : kitOne K (.type "int") (.type "bool") = some false := kit_ty (by decide) (by decide +kernel) (by unfold K; k_is) in
theorem kt_Decimal_bool : kitOne K (.ref 167) (.type "bool") = some false := kit_ty (by decide) (by decide +kernel) (by unfold K; k_is) in
theorem kt_Decimal_int : kitOne K (.ref 167) (.type "int") = some false := kit_ty (by decide) (by decide +kernel) (by unfold K; k_is)
in #guard_msgs in open Nat
theorem kt_Name_bool : kitOne K (.ref 209) (.type "bool") = some false := kit_ty (by decide) (by decide +kernel) (by unfold K; k_is) in
theorem kt_Name_int : kitOne K (.ref 209) (.type "int") = some false := kit_ty (by decide) (by decide +kernel) (by unfold K; k_is) in
theorem kt_Name_Decimal : kitOne K (.ref 209) (.ref 167) = some false := kit_ref (by decide) (by unfold K; k_is) (by unfold K; k_is) (by unfold K; k_is)
in #guard_msgs in open Nat
theorem kt_String_bool : kitOne K (.ref 231) (.type "bool") = some false := kit_ty (by decide) (by decide +kernel) (by unfold K; k_is) in
theorem kt_String_int : kitOne K (.ref 231) (.type "int") = some false := kit_ty (by decide) (by decide +kernel) (by unfold K; k_is) in
theorem kt_String_Decimal : kitOne K (.ref 231) (.ref 167) = some false := kit_ref (by decide) (by unfold K; k_is) (by unfold K; k_is) (by unfold K; k_is)
in #guard_msgs in open Nat
theorem kt_String_Name : kitOne K (.ref 231) (.ref 209) = some false := kit_ref (by decide) (by unfold K; k_is) (by unfold K; k_is) (by unfold K; k_is)
in #guard_msgs in open Nat
theorem of_chars (l : List Char) : Str.ofString (String.ofList l) = ⟨(l.map Char.toNat).toArray⟩ := by rw [Str.ofString_eq_toList, String.toList_ofList]
in #guard_msgs in open Nat
noncomputable def lowC : List Char := ['s', 'p', 'a', 'c', 'e', ' ', 'e', 'x', 'c', 'l', 'a', 'm', ' ', 'q', 'u', 'o', 't', 'e', 'd', 'b', 'l', ' ', 'n', 'u', 'm', 'b', 'e', 'r', 's', 'i', 'g', 'n', ' ', 'd', 'o', 'l', 'l', 'a', 'r', ' ', 'p', 'e', 'r', 'c', 'e', 'n', 't', ' ', 'a', 'm', 'p', 'e', 'r', 's', 'a', 'n', 'd', ' ', 'q', 'u', 'o', 't', 'e', 's', 'i', 'n', 'g', 'l', 'e', ' ', 'p', 'a', 'r', 'e', 'n', 'l', 'e', 'f', 't', ' ', 'p', 'a', 'r', 'e', 'n', 'r', 'i', 'g', 'h', 't', ' ', 'a', 's', 't', 'e', 'r', 'i', 's', 'k', ' ', 'p', 'l', 'u', 's', ' ', 'c', 'o', 'm', 'm', 'a', ' ', 'h', 'y', 'p', 'h', 'e', 'n', ' ', 'p', 'e', 'r', 'i', 'o', 'd', ' ', 's', 'l', 'a', 's', 'h', ' ', 'z', 'e', 'r', 'o', ' ', 'o', 'n', 'e', ' ', 't', 'w', 'o', ' ', 't', 'h', 'r', 'e', 'e', ' ', 'f', 'o', 'u', 'r', ' ', 'f', 'i', 'v', 'e', ' ', 's', 'i', 'x', ' ', 's', 'e', 'v', 'e', 'n', ' ', 'e', 'i', 'g', 'h', 't', ' ', 'n', 'i', 'n', 'e', ' ', 'c', 'o', 'l', 'o', 'n', ' ', 's', 'e', 'm', 'i', 'c', 'o', 'l', 'o', 'n', ' ', 'l', 'e', 's', 's', ' ', 'e', 'q', 'u', 'a', 'l', ' ', 'g', 'r', 'e', 'a', 't', 'e', 'r', ' ', 'q', 'u', 'e', 's', 't', 'i', 'o', 'n', ' ', 'a', 't']
noncomputable def lowT : Str := ⟨(lowC.map Char.toNat).toArray⟩
theorem lowS : (Str.ofString "space exclam quotedbl numbersign dollar percent ampersand quotesingle parenleft parenright asterisk plus comma hyphen period slash zero one two three four five six seven eight nine colon semicolon less equal greater question at") = lowT := of_chars lowC in
theorem lowL : (KWd.fin (KWd.scan lowT)).length = 33 := by decide +kernel
in #guard_msgs in open Nat
theorem lowZ : lowT.length ≤ 1000 := by decide +kernel in
theorem lowW : ((KWd.fin (KWd.scan lowT)).all fun y => y.length != 0) = true := by decide +kernel
in #guard_msgs in open Nat
noncomputable def midC : List Char := ['b', 'r', 'a', 'c', 'k', 'e', 't', 'l', 'e', 'f', 't', ' ', 'b', 'a', 'c', 'k', 's', 'l', 'a', 's', 'h', ' ', 'b', 'r', 'a', 'c', 'k', 'e', 't', 'r', 'i', 'g', 'h', 't', ' ', 'a', 's', 'c', 'i', 'i', 'c', 'i', 'r', 'c', 'u', 'm', ' ', 'u', 'n', 'd', 'e', 'r', 's', 'c', 'o', 'r', 'e', ' ', 'g', 'r', 'a', 'v', 'e']
noncomputable def midT : Str := ⟨(midC.map Char.toNat).toArray⟩
theorem midS : (Str.ofString "bracketleft backslash bracketright asciicircum underscore grave") = midT := of_chars midC in
theorem midL : (KWd.fin (KWd.scan midT)).length = 6 := by decide +kernel in
theorem midZ : midT.length ≤ 1000 := by decide +kernel in
theorem midW : ((KWd.fin (KWd.scan midT)).all fun y => y.length != 0) = true := by decide +kernel
in #guard_msgs in open Nat
noncomputable def highC : List Char := ['b', 'r', 'a', 'c', 'e', 'l', 'e', 'f', 't', ' ', 'b', 'a', 'r', ' ', 'b', 'r', 'a', 'c', 'e', 'r', 'i', 'g', 'h', 't', ' ', 'a', 's', 'c', 'i', 'i', 't', 'i', 'l', 'd', 'e']
noncomputable def highT : Str := ⟨(highC.map Char.toNat).toArray⟩
theorem highS : (Str.ofString "braceleft bar braceright asciitilde") = highT := of_chars highC in
theorem highL : (KWd.fin (KWd.scan highT)).length = 4 := by decide +kernel in
theorem highZ : highT.length ≤ 1000 := by decide +kernel in
theorem highW : ((KWd.fin (KWd.scan highT)).all fun y => y.length != 0) = true := by decide +kernel
in #guard_msgs in open Nat
noncomputable def latC : List Char := ['e', 'x', 'c', 'l', 'a', 'm', 'd', 'o', 'w', 'n', ' ', 'c', 'e', 'n', 't', ' ', 's', 't', 'e', 'r', 'l', 'i', 'n', 'g', ' ', 'c', 'u', 'r', 'r', 'e', 'n', 'c', 'y', ' ', 'y', 'e', 'n', ' ', 'b', 'r', 'o', 'k', 'e', 'n', 'b', 'a', 'r', ' ', 's', 'e', 'c', 't', 'i', 'o', 'n', ' ', 'd', 'i', 'e', 'r', 'e', 's', 'i', 's', ' ', 'c', 'o', 'p', 'y', 'r', 'i', 'g', 'h', 't', ' ', 'o', 'r', 'd', 'f', 'e', 'm', 'i', 'n', 'i', 'n', 'e', ' ', 'g', 'u', 'i', 'l', 'l', 'e', 'm', 'o', 't', 'l', 'e', 'f', 't', ' ', 'l', 'o', 'g', 'i', 'c', 'a', 'l', 'n', 'o', 't', ' ', 'h', 'y', 'p', 'h', 'e', 'n', ' ', 'r', 'e', 'g', 'i', 's', 't', 'e', 'r', 'e', 'd', ' ', 'm', 'a', 'c', 'r', 'o', 'n', ' ', 'd', 'e', 'g', 'r', 'e', 'e', ' ', 'p', 'l', 'u', 's', 'm', 'i', 'n', 'u', 's', ' ', 't', 'w', 'o', 's', 'u', 'p', 'e', 'r', 'i', 'o', 'r', ' ', 't', 'h', 'r', 'e', 'e', 's', 'u', 'p', 'e', 'r', 'i', 'o', 'r', ' ', 'a', 'c', 'u', 't', 'e', ' ', 'm', 'u', ' ', 'p', 'a', 'r', 'a', 'g', 'r', 'a', 'p', 'h', ' ', 'p', 'e', 'r', 'i', 'o', 'd', 'c', 'e', 'n', 't', 'e', 'r', 'e', 'd', ' ', 'c', 'e', 'd', 'i', 'l', 'l', 'a', ' ', 'o', 'n', 'e', 's', 'u', 'p', 'e', 'r', 'i', 'o', 'r', ' ', 'o', 'r', 'd', 'm', 'a', 's', 'c', 'u', 'l', 'i', 'n', 'e', ' ', 'g', 'u', 'i', 'l', 'l', 'e', 'm', 'o', 't', 'r', 'i', 'g', 'h', 't', ' ', 'o', 'n', 'e', 'q', 'u', 'a', 'r', 't', 'e', 'r', ' ', 'o', 'n', 'e', 'h', 'a', 'l', 'f', ' ', 't', 'h', 'r', 'e', 'e', 'q', 'u', 'a', 'r', 't', 'e', 'r', 's', ' ', 'q', 'u', 'e', 's', 't', 'i', 'o', 'n', 'd', 'o', 'w', 'n', ' ', 'A', 'g', 'r', 'a', 'v', 'e', ' ', 'A', 'a', 'c', 'u', 't', 'e', ' ', 'A', 'c', 'i', 'r', 'c', 'u', 'm', 'f', 'l', 'e', 'x', ' ', 'A', 't', 'i', 'l', 'd', 'e', ' ', 'A', 'd', 'i', 'e', 'r', 'e', 's', 'i', 's', ' ', 'A', 'r', 'i', 'n', 'g', ' ', 'A', 'E', ' ', 'C', 'c', 'e', 'd', 'i', 'l', 'l', 'a', ' ', 'E', 'g', 'r', 'a', 'v', 'e', ' ', 'E', 'a', 'c', 'u', 't', 'e', ' ', 'E', 'c', 'i', 'r', 'c', 'u', 'm', 'f', 'l', 'e', 'x', ' ', 'E', 'd', 'i', 'e', 'r', 'e', 's', 'i', 's', ' ', 'I', 'g', 'r', 'a', 'v', 'e', ' ', 'I', 'a', 'c', 'u', 't', 'e', ' ', 'I', 'c', 'i', 'r', 'c', 'u', 'm', 'f', 'l', 'e', 'x', ' ', 'I', 'd', 'i', 'e', 'r', 'e', 's', 'i', 's', ' ', 'E', 't', 'h', ' ', 'N', 't', 'i', 'l', 'd', 'e', ' ', 'O', 'g', 'r', 'a', 'v', 'e', ' ', 'O', 'a', 'c', 'u', 't', 'e', ' ', 'O', 'c', 'i', 'r', 'c', 'u', 'm', 'f', 'l', 'e', 'x', ' ', 'O', 't', 'i', 'l', 'd', 'e', ' ', 'O', 'd', 'i', 'e', 'r', 'e', 's', 'i', 's', ' ', 'm', 'u', 'l', 't', 'i', 'p', 'l', 'y', ' ', 'O', 's', 'l', 'a', 's', 'h', ' ', 'U', 'g', 'r', 'a', 'v', 'e', ' ', 'U', 'a', 'c', 'u', 't', 'e', ' ', 'U', 'c', 'i', 'r', 'c', 'u', 'm', 'f', 'l', 'e', 'x', ' ', 'U', 'd', 'i', 'e', 'r', 'e', 's', 'i', 's', ' ', 'Y', 'a', 'c', 'u', 't', 'e', ' ', 'T', 'h', 'o', 'r', 'n', ' ', 'g', 'e', 'r', 'm', 'a', 'n', 'd', 'b', 'l', 's']
noncomputable def latT : Str := ⟨(latC.map Char.toNat).toArray⟩
theorem latS : (Str.ofString "exclamdown cent sterling currency yen brokenbar section dieresis copyright ordfeminine guillemotleft logicalnot hyphen registered macron degree plusminus twosuperior threesuperior acute mu paragraph periodcentered cedilla onesuperior ordmasculine guillemotright onequarter onehalf threequarters questiondown Agrave Aacute Acircumflex Atilde Adieresis Aring AE Ccedilla Egrave Eacute Ecircumflex Edieresis Igrave Iacute Icircumflex Idieresis Eth Ntilde Ograve Oacute Ocircumflex Otilde Odieresis multiply Oslash Ugrave Uacute Ucircumflex Udieresis Yacute Thorn germandbls") = latT := of_chars latC
in #guard_msgs in open Nat
theorem latL : (KWd.fin (KWd.scan latT)).length = 63 := by decide +kernel in
theorem latZ : latT.length ≤ 1000 := by decide +kernel in
theorem latW : ((KWd.fin (KWd.scan latT)).all fun y => y.length != 0) = true := by decide +kernel in
theorem latN : (((KWd.fin (KWd.scan latT)).drop 31).all fun x => !(PySem.placed x fun i _ => Unicode.lowerAt x.cps i).isEmpty && decide ((PySem.placed x fun i _ => Unicode.lowerAt x.cps i).size ≤ 100)) = true := by decide +kernel
in #guard_msgs in open Nat
theorem gv_part_text : Gv "part_text" (.ref 725) := .own (by unfold K; k_is) in
theorem kp_725 : Kp (.ref 725) := .inl (by unfold K; k_is) in
theorem gv_known_code : Gv "known_code" (.ref 720) := .own (by unfold K; k_is) in
theorem kp_720 : Kp (.ref 720) := .inl (by unfold K; k_is) in
theorem gv_ascii_names : Gv "ascii_names" (.ref 694) := .own (by unfold K; k_is)
in #guard_msgs in open Nat
theorem kp_694 : Kp (.ref 694) := .inl (by unfold K; k_is) in
theorem gv_latin_names : Gv "latin_names" (.ref 699) := .own (by unfold K; k_is) in
theorem kp_699 : Kp (.ref 699) := .inl (by unfold K; k_is) in
theorem gv_OTHER_CODES : Gv "OTHER_CODES" (.ref 686) := .own (by unfold K; k_is) in
theorem gv_LOW_NAMES : Gv "LOW_NAMES" (.str lowT 1148) := .own (by rw [← lowS]; unfold K; k_is)
in #guard_msgs in open Nat
theorem gv_MIDDLE_NAMES : Gv "MIDDLE_NAMES" (.str midT 1150) := .own (by rw [← midS]; unfold K; k_is) in
theorem gv_HIGH_NAMES : Gv "HIGH_NAMES" (.str highT 1152) := .own (by rw [← highS]; unfold K; k_is) in
theorem gv_LATIN_NAMES : Gv "LATIN_NAMES" (.str latT 1154) := .own (by rw [← latS]; unfold K; k_is) in
theorem gv_chr : Gv "chr" (.builtin "chr") := .bi (by unfold K; k_is) boot_chr (by decide)
in #guard_msgs in open Nat
theorem kk_placed : K.lookup 424 = some ⟨.type "tuple", none, .seq ([.str "Td" 739, .str "TD" 740, .str "T*" 741, .str "Tm" 742, .str "Tj" 743, .str "TJ" 744, .str "'" 745, .str "\"" 746, .str "ET" 747] : List Value).toArray 0, #[]⟩ := by unfold K; k_is in
theorem kk_spacing : K.lookup 425 = some ⟨.type "tuple", none, .seq ([.str "Tc" 749, .str "Tw" 750, .str "Tz" 751, .str "TL" 752, .str "Ts" 753] : List Value).toArray 0, #[]⟩ := by unfold K; k_is
in #guard_msgs in open Nat
theorem kk_words : K.lookup 799 = some ⟨.type "tuple", none, .seq ([.str "Tj" 1435, .str "TJ" 1436, .str "'" 1437, .str "\"" 1438, .str "Td" 1439, .str "TD" 1440, .str "T*" 1441, .str "Tm" 1442, .str "Tc" 1443, .str "Tw" 1444, .str "Tz" 1445, .str "TL" 1446, .str "Ts" 1447, .str "Tf" 1448, .str "q" 1449, .str "Q" 1450, .str "cm" 1451, .str "Tj" 1452, .str "T*" 1453] : List Value).toArray 0, #[]⟩ := by unfold K; k_is
in #guard_msgs in open Nat
theorem tt_nil {prog : Program} {w : World} : ∀ e ∈ ([] : List DictEntry), ∃ k, (PySem.strKind prog w).is k e.key = true ∧ e.hash = (PySem.strKind prog w).hash k := fun e h => nomatch h in
theorem tt_cons {prog : Program} {w : World} {k : Str} {t : Tok} {v : Value} {l : List DictEntry} {H : Int} (eh : H = (PySem.strKind prog w).hash k) (h : ∀ e ∈ l, ∃ k, (PySem.strKind prog w).is k e.key = true ∧ e.hash = (PySem.strKind prog w).hash k) :
  ∀ e ∈ ({ hash := H, key := .str k t, val := v } : DictEntry) :: l, ∃ k, (PySem.strKind prog w).is k e.key = true ∧ e.hash = (PySem.strKind prog w).hash k := fun e he => by
 rcases List.mem_cons.mp he with rfl | he
 ·exact ⟨k, strKind_is _ _ _ _, eh⟩
 ·exact h e he
in #guard_msgs in open Nat
theorem kk_other (prog : Program) : ∃ es, K.lookup 686 = some ⟨.type "dict", none, .dict es 39, #[]⟩ ∧ TxtTab prog w es ∧ findBy (PySem.strKind prog w).is es "dagger" = some (.int 8224 1172) ∧ findBy (PySem.strKind prog w).is es "ellipsis" = some (.int 8230 1169) ∧ findBy (PySem.strKind prog w).is es "" = none := ⟨_, by unfold K; k_is, by unfold TxtTab; simp only []; (repeat refine tt_cons rfl ?_); exact tt_nil, rfl, rfl, rfl⟩
in #guard_msgs in open Nat
section
variable {A : Around} {h₀ h : Heap} {F₀ F : Fz} {W : List Addr} {mu : Mu} {tk : Nat}
theorem c_Dec {m P : Int} {p : Nat} {t u : Tok} {x : Rat} {Q : Value → Shared → Prop} (hR : Room 6 A) (f : Fm h₀ F₀ W mu F h) (hP : P = (p : Int)) (hx : (m : Rat) = x * 10 ^ p)
  (ret : ∀ v F' h' tk', DecV F' v x → Fm h₀ F₀ W mu F' h' → Le F F' → Q v ⟨h', g, d, tk', os⟩) : wpAny (model prog w) A (call (.ref 167) [.int m t, .int P u]) Q E ⟨h, g, d, tk, os⟩ := by
 subst hP
 refine r_use (make (n := 5) (ks := ["top", "places"]) hR f (mk_Decimal) (by decide) fun a da F1 h1 A' x1 ha hd hn h0 hR' => ?_)
 refine enter ["self", "top", "places"] [] [] [("self", some (.ref a)), ("top", some (.int m t)), ("places", some (.int p u))] hR' (f.call0 x1) (Mus.mk1 hd hn) (by unfold K; k_is) (by unfold K; k_is) (BindsTo.of_eq rfl) rfl rfl (by decide) (by decide) (by decide) (Ga.all .nil) rfl rfl rfl (by decide) rfl ?_
 intro env h2 tk2 ok f2 hR2
 refine x_while (fun n s => ∃ m' tm tp h' tk', s = ⟨h', g, d, tk', os⟩ ∧ Fm h1 F1 [da] ((env.locals, frm env [("self", some (.ref a)), ("top", some (.int m' tm)), ("places", some (.int (n : Nat) tp))]) :: (da, idc [("top", none), ("places", none)]) :: []) F1 h' ∧ (m' : Rat) = x * 10 ^ n) p ⟨m, t, u, h2, tk2, rfl, f2, hx⟩ ?_
 rintro n s ⟨m', tm, tp, h', tk', rfl, f3, hx3⟩
 k_extra "st"
 refine ite_b (fun c1 => ?_) (fun c1 => ?_)
 ·have c1' : 0 < (n : Int) := of_decide_eq_true c1
  k_extra "st"
  k_extra "mod"
  k_extra "st"
  refine ite_b (fun c2 => ?_) (fun c2 => ?_)
  ·have c2' : m'.fmod 10 = 0 := by simpa using c2
   k_extra "st"
   k_extra "div"
   k_extra "st"
   refine' wl_next ⟨n - 1, by k_extra "om", m'.fdiv 10, _, _, _, _, rfl, ?fm, ?vl⟩
   case fm => 
    have e : ((n - 1 : Nat) : Int) = (n : Int) - 1 := by k_extra "om"
    rw [e]; assumption
   case vl =>
    obtain ⟨j, rfl⟩ : ∃ j, n = j + 1 := ⟨n - 1, by k_extra "om"⟩
    have e : m' = m'.fdiv 10 * 10 := by rw [Int.fdiv_eq_ediv_of_nonneg _ (by decide)]; rw [Int.fmod_eq_emod_of_nonneg _ (by decide)] at c2'; k_extra "om"
    have e2 : ((m'.fdiv 10 : Int) : Rat) * 10 = x * 10 ^ j * 10 := by
     rw [Rat.mul_assoc, ← Rat.pow_succ, ← hx3]
     have := congrArg (fun z : Int => (z : Rat)) e
     rw [Rat.intCast_mul] at this
     exact this.symm
    rw [Nat.add_sub_cancel]
    exact r_can (n := 1) (by rw [Rat.pow_succ, Rat.pow_zero, Rat.one_mul]; exact e2)
  ·have nf : Nf m' n x := ⟨hx3, .inr fun q => by rw [Int.fmod_eq_emod_of_nonneg _ (by decide), q] at c2; exact absurd c2 (by decide)⟩
   k_extra "st"
   k_extra "sat"
   k_extra "st"
   k_extra "sat"
   k_extra "st"
   obtain ⟨f4, l4, l5, e4⟩ := f.made x1 h0 (by assumption)
   exact ret _ _ _ _ ⟨a, m', n, rfl, ⟨da, _, _, l5 _ _ ha, e4⟩, nf⟩ f4 l4
 ·have nf : Nf m' n x := ⟨hx3, .inl (by have := of_decide_eq_false c1; k_extra "om")⟩
  k_extra "st"
  k_extra "sat"
  k_extra "st"
  k_extra "sat"
  k_extra "st"
  obtain ⟨f4, l4, l5, e4⟩ := f.made x1 h0 (by assumption)
  exact ret _ _ _ _ ⟨a, m', n, rfl, ⟨da, _, _, l5 _ _ ha, e4⟩, nf⟩ f4 l4
in #guard_msgs in open Nat
end
section
variable {A : Around} {h₀ h : Heap} {F₀ F : Fz} {W : List Addr} {mu : Mu} {tk : Nat}
theorem c_decof {v : Value} {x : Rat} {Q : Value → Shared → Prop} (hR : Room 8 A) (f : Fm h₀ F₀ W mu F h) (nv : NumV F v x)
  (ret : ∀ v' F' h' tk', DecV F' v' x → Fm h₀ F₀ W mu F' h' → Le F F' → Q v' ⟨h', g, d, tk', os⟩) : wpAny (model prog w) A (call (.ref 185) [v]) Q E ⟨h, g, d, tk, os⟩ := by
 have t : Tk [] [] mu mu := .nil
 rcases nv with ⟨n, tn, rfl, rfl⟩ | ⟨a, m, p, rfl, ⟨da, ta, tb, ha, hda⟩, nf⟩
 ·refine r_use (enter ["value"] [] [("isinstance", .builtin "isinstance"), ("Decimal", .ref 167), ("bool", .type "bool"), ("int", .type "int")] [("value", some (.int n tn))] hR f (f.take t) (by unfold K; k_is) (by unfold K; k_is) (BindsTo.of_eq rfl) rfl rfl (by decide) (by decide) (by decide) (Ga.all (.cons (gv_isinstance) (.cons (gv_Decimal) (.cons (gv_bool) (.cons (gv_int) .nil))))) rfl rfl rfl (by decide) rfl ?_)
  intro env h2 tk2 ok f2 hR2
  k_extra "st"
  k_extra "callb"
  k_extra "st"
  k_extra "isi"
  k_extra "st"
  k_extra "callb"
  k_extra "st"
  k_extra "isi"
  k_extra "st"
  k_extra "callb"
  k_extra "st"
  k_extra "isi"
  k_extra "st"
  k_extra "callk"
  k_extra "st"
  k_extra "cDec"
  case hx => rw [Rat.pow_zero, Rat.mul_one]
  intro v' F3 h3 tk3 hv f3 l3
  k_extra "st"
  obtain ⟨f4, l4⟩ := f.back t f3
  exact ret _ _ _ _ hv f4 l4
 ·refine r_use (enter ["value"] [] [("isinstance", .builtin "isinstance"), ("Decimal", .ref 167), ("bool", .type "bool"), ("int", .type "int")] [("value", some (.ref a))] hR f (f.take t) (by unfold K; k_is) (by unfold K; k_is) (BindsTo.of_eq rfl) rfl rfl (by decide) (by decide) (by decide) (Ga.all (.cons (gv_isinstance) (.cons (gv_Decimal) (.cons (gv_bool) (.cons (gv_int) .nil))))) rfl rfl rfl (by decide) rfl ?_)
  intro env h2 tk2 ok f2 hR2
  k_extra "st"
  k_extra "callb"
  k_extra "st"
  k_extra "isi"
  k_extra "st"
  obtain ⟨f4, l4⟩ := f.back t f2
  exact ret _ _ _ _ ⟨a, m, p, rfl, ⟨da, ta, tb, ha, hda⟩, nf⟩ f4 l4
in #guard_msgs in open Nat
theorem ten_bits {j k : Nat} (h : j ≤ k) : ((10 : Int) ^ j).natAbs < 2 ^ (4 * k + 1) := by
 rw [Int.natAbs_pow]
 have t : 10 ^ j ≤ 2 ^ (4 * k) := Nat.le_trans (Nat.pow_le_pow_right (by decide) h) (by rw [Nat.pow_mul]; exact Nat.pow_le_pow_left (by decide) k)
 have : 2 ^ (4 * k) < 2 ^ (4 * k + 1) := Nat.pow_lt_pow_right (by decide) (by k_extra "om")
 exact Nat.lt_of_le_of_lt t this
in #guard_msgs in open Nat
theorem c_scale {v1 v2 : Value} {x1 x2 : Rat} {P e1 e2 : Nat} {Q : Value → Shared → Prop} (hR : Room 10 A) (f : Fm h₀ F₀ W mu F h) (n1 : NumV F v1 x1) (n2 : NumV F v2 x2) (d1 : Dq P e1 x1) (d2 : Dq P e2 x2) (hp : P ≤ 40) (hq : e1 + e2 ≤ 1000000)
  (ret : ∀ T m1 m2 p t1 t2 t3 F' h' tk', F' T = some (tup [.int m1 t1, .int m2 t2, .int ((p : Nat) : Int) t3]) → (m1 : Rat) = x1 * 10 ^ p → (m2 : Rat) = x2 * 10 ^ p → p ≤ 40 → Fm h₀ F₀ W mu F' h' → Le F F' → Q (.ref T) ⟨h', g, d, tk', os⟩) : wpAny (model prog w) A (call (.ref 192) [v1, v2]) Q E ⟨h, g, d, tk, os⟩ := by
 have t : Tk [] [] mu mu := .nil
 refine r_use (enter ["one", "other"] ["first", "second", "places"] [("decimal_of", .ref 185), ("max", .builtin "max")] [("one", some (v1)), ("other", some (v2)), ("first", none), ("second", none), ("places", none)] hR f (f.take t) (by unfold K; k_is) (by unfold K; k_is) (BindsTo.of_eq rfl) rfl rfl (by decide) (by decide) (by decide) (Ga.all (.cons (gv_decimal_of) (.cons (gv_max) .nil))) rfl rfl rfl (by decide) rfl ?_)
 intro env h2 tk2 ok f2 hR2
 k_extra "st"
 k_extra "callk"
 k_extra "st"
 k_extra "cDecof"
 rintro v' F3 h3 tk3 ⟨a, ma, pa, rfl, ⟨da, ta, tb, ha, hda⟩, nfa⟩ f3 l3
 k_extra "st"
 k_extra "callk"
 k_extra "st"
 k_extra "cDecof"
 rintro v' F4 h4 tk4 ⟨b, mb, pb, rfl, ⟨db, tc, td, hb, hdb⟩, nfb⟩ f4 l4
 k_extra "st"
 k_extra "callb"
 k_extra "st"
 k_extra "max"
 have em := im_max pa pb
 have hm : max pa pb ≤ 40 := Nat.max_le.2 ⟨Nat.le_trans (nfa.le d1).1 hp, Nat.le_trans (nfb.le d2).1 hp⟩
 rw [em]
 k_extra "st"
 k_extra "pow?"
 case h0 => k_extra "om"
 case h1 => k_extra "om"
 k_extra "mul"
 case hm => exact bits_small (nfa.le d1).2 (ten_bits (k := 40) (by k_extra "om")) (by k_extra "om")
 k_extra "st"
 k_extra "pow?"
 case h0 => k_extra "om"
 case h1 => k_extra "om"
 k_extra "mul"
 case hm => exact bits_small (nfb.le d2).2 (ten_bits (k := 40) (by k_extra "om")) (by k_extra "om")
 k_extra "st"
 k_extra "mkt"
 intro T F5 h5 f5 l5 e5
 k_extra "st"
 obtain ⟨f6, l6⟩ := f.back t f5
 refine ret T _ _ _ _ _ _ _ _ _ e5 ?_ ?_ (by k_extra "om") f6 l6
 ·rw [Rat.intCast_mul, r_cast, nfa.1, Rat.mul_assoc, ← r_pw]; congr 2; k_extra "om"
 ·rw [Rat.intCast_mul, r_cast, nfb.1, Rat.mul_assoc, ← r_pw]; congr 2; k_extra "om"
in #guard_msgs in open Nat
theorem c_plus {a : Addr} {v2 : Value} {x1 x2 : Rat} {P e1 e2 : Nat} {Q : Value → Shared → Prop} (hR : Room 14 A) (f : Fm h₀ F₀ W mu F h) (n1 : DecV F (.ref a) x1) (n2 : NumV F v2 x2) (d1 : Dq P e1 x1) (d2 : Dq P e2 x2) (hp : P ≤ 40) (hq : e1 + e2 ≤ 1000000)
  (ret : ∀ v' F' h' tk', DecV F' v' (x1 + x2) → Fm h₀ F₀ W mu F' h' → Le F F' → Q v' ⟨h', g, d, tk', os⟩) : wpAny (model prog w) A (call (.ref 94) [.ref a, v2]) Q E ⟨h, g, d, tk, os⟩ := by
 have t : Tk [] [] mu mu := .nil
 refine r_use (enter ["self", "other"] ["one", "two", "places"] [("at_one_scale", .ref 192), ("Decimal", .ref 167)] [("self", some (.ref a)), ("other", some (v2)), ("one", none), ("two", none), ("places", none)] hR f (f.take t) (by unfold K; k_is) (by unfold K; k_is) (BindsTo.of_eq rfl) rfl rfl (by decide) (by decide) (by decide) (Ga.all (.cons (gv_at_one_scale) (.cons (gv_Decimal) .nil))) rfl rfl rfl (by decide) rfl ?_)
 intro env h2 tk2 ok f2 hR2
 k_extra "st"
 k_extra "callk"
 k_extra "st"
 k_extra "cScale"
 case d1 => exact d1
 case d2 => exact d2
 case hp => exact hp
 case hq => exact hq
 intro T m1 m2 p t1 t2 t3 F3 h3 tk3 eT e1 e2 hp3 f3 l3
 k_extra "un"
 k_extra "st"
 k_extra "callk"
 k_extra "st"
 k_extra "cDec"
 case hx => exact (by rw [Rat.intCast_add, e1, e2, Rat.add_mul] : ((m1 + m2 : Int) : Rat) = (x1 + x2) * 10 ^ p)
 intro v' F4 h4 tk4 hv f4 l4
 k_extra "st"
 obtain ⟨f6, l6⟩ := f.back t f4
 exact ret _ _ _ _ hv f6 l6
in #guard_msgs in open Nat
theorem c_times {a : Addr} {v2 : Value} {x1 x2 : Rat} {P1 P2 e1 e2 : Nat} {Q : Value → Shared → Prop} (hR : Room 12 A) (f : Fm h₀ F₀ W mu F h) (n1 : DecV F (.ref a) x1) (n2 : NumV F v2 x2) (d1 : Dq P1 e1 x1) (d2 : Dq P2 e2 x2) (hq : e1 + e2 ≤ 1000000)
  (ret : ∀ v' F' h' tk', DecV F' v' (x1 * x2) → Fm h₀ F₀ W mu F' h' → Le F F' → Q v' ⟨h', g, d, tk', os⟩) : wpAny (model prog w) A (call (.ref 108) [.ref a, v2]) Q E ⟨h, g, d, tk, os⟩ := by
 have t : Tk [] [] mu mu := .nil
 obtain ⟨a', ma, pa, z, ⟨da, ta, tb, ha, hda⟩, nfa⟩ := id n1
 cases z
 refine r_use (enter ["self", "other"] ["factor"] [("decimal_of", .ref 185), ("Decimal", .ref 167)] [("self", some (.ref a)), ("other", some (v2)), ("factor", none)] hR f (f.take t) (by unfold K; k_is) (by unfold K; k_is) (BindsTo.of_eq rfl) rfl rfl (by decide) (by decide) (by decide) (Ga.all (.cons (gv_decimal_of) (.cons (gv_Decimal) .nil))) rfl rfl rfl (by decide) rfl ?_)
 intro env h2 tk2 ok f2 hR2
 k_extra "st"
 k_extra "callk"
 k_extra "st"
 k_extra "cDecof"
 rintro v' F4 h4 tk4 ⟨b, mb, pb, rfl, ⟨db, tc, td, hb, hdb⟩, nfb⟩ f4 l4
 k_extra "st"
 k_extra "callk"
 k_extra "st"
 k_extra "mul"
 case hm => exact bits_small (nfa.le d1).2 (nfb.le d2).2 (by k_extra "om")
 k_extra "st"
 k_extra "cDec"
 case hx => exact (by rw [Rat.intCast_mul, nfa.1, nfb.1, r_pw]; grind : ((ma * mb : Int) : Rat) = (x1 * x2) * 10 ^ (pa + pb))
 intro v' F4 h4 tk4 hv f4 l4
 k_extra "st"
 obtain ⟨f6, l6⟩ := f.back t f4
 exact ret _ _ _ _ hv f6 l6
in #guard_msgs in open Nat
theorem c_neg {a : Addr} {x : Rat} {Q : Value → Shared → Prop} (hR : Room 10 A) (f : Fm h₀ F₀ W mu F h) (n1 : DecV F (.ref a) x)
  (ret : ∀ v' F' h' tk', DecV F' v' (-x) → Fm h₀ F₀ W mu F' h' → Le F F' → Q v' ⟨h', g, d, tk', os⟩) : wpAny (model prog w) A (call (.ref 115) [.ref a]) Q E ⟨h, g, d, tk, os⟩ := by
 have t : Tk [] [] mu mu := .nil
 obtain ⟨a', ma, pa, z, ⟨da, ta, tb, ha, hda⟩, nfa⟩ := id n1
 cases z
 refine r_use (enter ["self"] [] [("Decimal", .ref 167)] [("self", some (.ref a))] hR f (f.take t) (by unfold K; k_is) (by unfold K; k_is) (BindsTo.of_eq rfl) rfl rfl (by decide) (by decide) (by decide) (Ga.all (.cons (gv_Decimal) .nil)) rfl rfl rfl (by decide) rfl ?_)
 intro env h2 tk2 ok f2 hR2
 k_extra "st"
 k_extra "callk"
 k_extra "st"
 k_extra "cDec"
 case hx => exact (by rw [Rat.intCast_neg, nfa.1]; grind : ((-ma : Int) : Rat) = (-x) * 10 ^ pa)
 intro v' F4 h4 tk4 hv f4 l4
 k_extra "st"
 obtain ⟨f6, l6⟩ := f.back t f4
 exact ret _ _ _ _ hv f6 l6
in #guard_msgs in open Nat
theorem c_dtold {a : Addr} {x : Rat} {Q : Value → Shared → Prop} (hR : Room 4 A) (f : Fm h₀ F₀ W mu F h) (n1 : DecV F (.ref a) x)
  (ret : ∀ T m p t1 t2 F' h' tk', F' T = some (tup [.int m t1, .int ((p : Nat) : Int) t2]) → Nf m p x → Fm h₀ F₀ W mu F' h' → Le F F' → Q (.ref T) ⟨h', g, d, tk', os⟩) : wpAny (model prog w) A (call (.ref 150) [.ref a]) Q E ⟨h, g, d, tk, os⟩ := by
 have t : Tk [] [] mu mu := .nil
 obtain ⟨a', ma, pa, z, ⟨da, ta, tb, ha, hda⟩, nfa⟩ := id n1
 cases z
 refine r_use (enter ["self"] [] [] [("self", some (.ref a))] hR f (f.take t) (by unfold K; k_is) (by unfold K; k_is) (BindsTo.of_eq rfl) rfl rfl (by decide) (by decide) (by decide) (Ga.all .nil) rfl rfl rfl (by decide) rfl ?_)
 intro env h2 tk2 ok f2 hR2
 k_extra "st"
 k_extra "mkt"
 intro T F5 h5 f5 l5 e5
 k_extra "st"
 obtain ⟨f6, l6⟩ := f.back t f5
 exact ret _ _ _ _ _ _ _ _ e5 nfa f6 l6
in #guard_msgs in open Nat
end
noncomputable def tapeC (c : Addr) (n : Nat) : Cell := fun o => ∃ (i : Nat) (u : Tok), i ≤ n ∧ lsi [.ref c, .int i u] o
inductive TapeOk (F : Fz) (c : Addr) : Prop
  | mk (cs) (e0 : F c = some (lst cs)) (e1 : (∀ v ∈ cs, ∃ x t, v = Value.int x t)) (e2 : 0 < cs.length) (e3 : cs.length ≤ 48) : TapeOk F c
theorem TapeOk.mono {F F' : Fz} {c : Addr} (l : Le F F') (k : TapeOk F c) : TapeOk F' c := by
 obtain ⟨cs, a, b, c', d'⟩ := k
 exact ⟨cs, l _ _ a, b, c', d'⟩ in
theorem tape_weak {c : Addr} {n m : Nat} (l : n ≤ m) {o : Obj} (h : tapeC c n o) : tapeC c m o := by
 obtain ⟨i, u, a, b⟩ := h
 exact ⟨i, u, Nat.le_trans a l, b⟩
in #guard_msgs in open Nat
section
variable {A : Around} {h₀ h : Heap} {F₀ F : Fz} {W : List Addr} {mu mu' : Mu} {tk : Nat}
theorem int_at {cs : List Value} (hi : ∀ v ∈ cs, ∃ x t, v = Value.int x t) {j : Nat} (hj : j < cs.length) : ∃ x t, cs[j]? = some (.int x t) := by
 obtain ⟨x, t, e⟩ := hi cs[j] (List.getElem_mem hj)
 exact ⟨x, t, by rw [List.getElem?_eq_getElem hj, e]⟩ in
theorem c_draw {tp c : Addr} {m : Int} {k : Nat} {um : Tok} {Q : Value → Shared → Prop} (hR : Room 4 A) (f : Fm h₀ F₀ W mu F h) (t : Tk [(tp, tapeC c k)] [(tp, tapeC c (k + 1))] mu mu') (hc : TapeOk F c) (hm : 0 < m) (hk : k ≤ 100000)
  (ret : ∀ r tr F' h' tk', 0 ≤ r → r < m → Fm h₀ F₀ W mu' F' h' → Le F F' → Q (.int r tr) ⟨h', g, d, tk', os⟩) : wpAny (model prog w) A (call (.ref 806) [.ref tp, .int m um]) Q E ⟨h, g, d, tk, os⟩ := by
 obtain ⟨cs, hc, hi, h0, h1⟩ := hc
 have ms := f.take t
 obtain ⟨⟨o, e1, i, u, hi', e2⟩, hn⟩ := ms.has _ (.head _)
 have ms' : Mus F h [(tp, lsi [.ref c, .int i u])] := ms.one ⟨o, e1, e2⟩
 refine r_use (enter ["tape", "limit"] ["cells", "at"] [("len", .builtin "len")] [("tape", some (.ref tp)), ("limit", some (.int m um)), ("cells", none), ("at", none)] hR f ms' (by unfold K; k_is) (by unfold K; k_is) (BindsTo.of_eq rfl) rfl rfl (by decide) (by decide) (by decide) (Ga.all (.cons (gv_len) .nil)) rfl rfl rfl (by decide) rfl ?_)
 intro env h₁ tk₁ ok f hR'
 k_extra "ss"
 k_extra "setit"
 k_extra "ss"
 k_extra "callb"
 k_extra "ss"
 k_extra "len"
 k_extra "mod"
 have j0 : 0 ≤ ((i : Int)).fmod cs.length := Int.fmod_nonneg_of_pos _ (by k_extra "om")
 have j1 : ((i : Int)).fmod cs.length < cs.length := Int.fmod_lt_of_pos _ (by k_extra "om")
 obtain ⟨x, tx, ex⟩ := int_at hi (j := (((i : Int)).fmod cs.length).toNat) (by k_extra "om")
 k_extra "itm?"
 case h0 => exact j0
 case hk => k_extra "om"
 case hx => exact ex
 k_extra "ss"
 k_extra "callb"
 k_extra "ss"
 k_extra "len"
 k_extra "div"
 k_extra "ss"
 k_extra "mul"
 case hm => exact IntMulOk.of_left (by decide)
 k_extra "ss"
 k_extra "mul"
 case hm =>
  have e : (i : Int).fdiv cs.length = (i : Int) / cs.length := Int.fdiv_eq_ediv_of_nonneg _ (by k_extra "om")
  have e0 : 0 ≤ (i : Int) / cs.length := Int.ediv_nonneg (by k_extra "om") (by k_extra "om")
  have e1 : (i : Int) / cs.length ≤ i := Int.ediv_le_self _ (by k_extra "om")
  exact IntMulOk.of_left (PySem.intBits_le_64 (by k_extra "om") (by k_extra "om"))
 k_extra "ss"
 k_extra "mod"
 k_extra "ss"
 rename Fm h F _ _ _ _ => fe
 have ff := fe.mus.tail
 obtain ⟨o', y1, y2⟩ := (ff.has _ (.head _)).1
 exact ret _ _ _ _ _ (Int.fmod_nonneg_of_pos _ hm) (Int.fmod_lt_of_pos _ hm) ((‹Fm h₀ F₀ W mu F h›).tk t fe.ext (ff.one ⟨o', y1, i + 1, _, by k_extra "om", y2⟩)) fe.ext.le
in #guard_msgs in open Nat
end
section
variable {A : Around} {h₀ h : Heap} {F₀ F : Fz} {W : List Addr} {mu mu' : Mu} {tk : Nat}
theorem c_unit {Q : Value → Shared → Prop} (hR : Room 4 A) (f : Fm h₀ F₀ W mu F h)
  (ret : ∀ tr F' h' tk', Fm h₀ F₀ W mu F' h' → Le F F' → Q (.int (10 ^ 40) tr) ⟨h', g, d, tk', os⟩) : wpAny (model prog w) A (call (.ref 798) []) Q E ⟨h, g, d, tk, os⟩ := by
 have t : Tk [] [] mu mu := .nil
 refine r_use (enter [] [] [] [] hR f (f.take t) (by unfold K; k_is) (by unfold K; k_is) (BindsTo.of_eq rfl) rfl rfl (by decide) (by decide) (by decide) (Ga.all .nil) rfl rfl rfl (by decide) rfl ?_)
 intro env h₁ tk₁ ok f2 hR'
 k_extra "ss"
 k_extra "pow?"
 case h0 => decide
 case h1 => decide
 k_extra "ss"
 obtain ⟨f6, l6⟩ := f.back t f2
 exact ret _ _ _ _ f6 l6
in #guard_msgs in open Nat
end
noncomputable def okCode (n : Nat) : Prop := n = 32 ∨ n = 65 ∨ n = 66 ∨ n = 200
structure Oct (b : Array UInt8) : Prop where
  ok : ∀ (i : Nat) (c : UInt8), b[i]? = some c → okCode c.toNat
  sz : b.size ≤ 2
noncomputable def okI (n : Int) : Prop := n = 32 ∨ n = 65 ∨ n = 66 ∨ n = 200
theorem oct_of {ns : List Int} (h : ∀ n ∈ ns, okI n) (hz : ns.length ≤ 2) : Oct (byteArr ns) := by
 refine ⟨fun i c e => ?_, by rw [byteArr_size]; exact hz⟩
 unfold byteArr at e
 rw [List.getElem?_toArray, List.getElem?_map] at e
 cases q : ns[i]? with
 | none => rw [q] at e; cases e
 | some n =>
  rw [q] at e
  have e' : n.toNat.toUInt8 = c := Option.some.inj e
  have := h n (List.mem_of_getElem? q)
  unfold okI at this
  subst e'
  rcases this with rfl | rfl | rfl | rfl
  ·exact .inl rfl
  ·exact .inr (.inl rfl)
  ·exact .inr (.inr (.inl rfl))
  ·exact .inr (.inr (.inr rfl))
in #guard_msgs in open Nat
theorem codes_at {j : Int} (h0 : 0 ≤ j) (h1 : j < 4) (t1 t2 t3 t4 : Tok) : ∃ x t, [Value.int 32 t1, .int 65 t2, .int 66 t3, .int 200 t4][j.toNat]? = some (.int x t) ∧ okI x := by
 have : j = 0 ∨ j = 1 ∨ j = 2 ∨ j = 3 := by k_extra "om"
 rcases this with rfl | rfl | rfl | rfl
 ·exact ⟨_, _, rfl, .inl rfl⟩
 ·exact ⟨_, _, rfl, .inr (.inl rfl)⟩
 ·exact ⟨_, _, rfl, .inr (.inr (.inl rfl))⟩
 ·exact ⟨_, _, rfl, .inr (.inr (.inr rfl))⟩
in #guard_msgs in open Nat
theorem okI_byte {n : Int} (h : okI n) : 0 ≤ n ∧ n < 256 := by rcases h with rfl | rfl | rfl | rfl <;> decide
section
variable {A : Around} {h₀ h : Heap} {F₀ F : Fz} {W : List Addr} {mu mu' : Mu} {tk : Nat}
theorem c_number {tp c : Addr} {k : Nat} {Q : Value → Shared → Prop} (hR : Room 10 A) (f : Fm h₀ F₀ W mu F h) (t : Tk [(tp, tapeC c k)] [(tp, tapeC c (k + 1))] mu mu') (hc : TapeOk F c) (hk : k ≤ 100000)
  (ret : ∀ T v X tX x F' h' tk', F' T = some (tup [v, .int X tX]) → NumV F' v x → Sc X x → Dq 1 10 x → Fm h₀ F₀ W mu' F' h' → Le F F' → Q (.ref T) ⟨h', g, d, tk', os⟩) : wpAny (model prog w) A (call (.ref 813) [.ref tp]) Q E ⟨h, g, d, tk, os⟩ := by
 refine r_use (enter ["tape"] ["drawn", "worth"] [("_law_draw", .ref 806), ("Decimal", .ref 167), ("_law_unit", .ref 798)] [("tape", some (.ref tp)), ("drawn", none), ("worth", none)] hR f (f.take t) (by unfold K; k_is) (by unfold K; k_is) (BindsTo.of_eq rfl) rfl rfl (by decide) (by decide) (by decide) (Ga.all (.cons (gv__law_draw) (.cons (gv_Decimal) (.cons (gv__law_unit) .nil)))) rfl rfl rfl (by decide) rfl ?_)
 intro env h1 tk1 ok f2 hR2
 k_extra "st"
 k_extra "callk"
 k_extra "st"
 k_extra "cDraw"
 intro r tr F3 h3 tk3 r0 r1 f3 l3
 k_extra "st"
 k_extra "div"
 k_extra "st"
 k_extra "mod"
 k_extra "st"
 have e2 : r.fdiv 2 = r / 2 := Int.fdiv_eq_ediv_of_nonneg _ (by decide)
 generalize hx : r.fdiv 2 - 20 = n at *
 have nb : -20 ≤ n ∧ n ≤ 20 := by k_extra "om"
 refine ite_b (fun c1 => ?_) (fun c1 => ?_)
 ·k_extra "st"
  k_extra "callk"
  k_extra "st"
  k_extra "cDec"
  case hx => exact (by rw [Rat.pow_succ, Rat.pow_zero, Rat.one_mul]; grind : (n : Rat) = ((n : Rat) / 10) * 10 ^ 1)
  intro v F4 h4 tk4 hv f4 l4
  k_extra "st"
  k_extra "pow?"
  case h0 => decide
  case h1 => decide
  k_extra "mul"
  case hm => exact IntMulOk.of_left (PySem.intBits_le_64 (by k_extra "om") (by k_extra "om"))
  k_extra "st"
  k_extra "mkt"
  intro T F5 h5 f5 l5 e5
  k_extra "st"
  obtain ⟨f6, l6⟩ := f.back t f5
  refine ret T _ _ _ _ _ _ _ e5 (hv.mono l5).num ?_ ?_ f6 l6
  ·unfold Sc
   rw [Rat.intCast_mul, show ((10 : Int) ^ (39 : Int).toNat) = 10 ^ 39 from rfl, r_cast, show (40 : Nat) = 39 + 1 from rfl, Rat.pow_succ]; grind
  ·exact ⟨n, by rw [Rat.pow_succ, Rat.pow_zero, Rat.one_mul]; grind, by k_extra "om"⟩
 ·k_extra "st"
  k_extra "callk"
  k_extra "st"
  k_extra "cUnit"
  intro tu F4 h4 tk4 f4 l4
  k_extra "mul"
  case hm => exact IntMulOk.of_left (PySem.intBits_le_64 (by k_extra "om") (by k_extra "om"))
  k_extra "st"
  k_extra "mkt"
  intro T F5 h5 f5 l5 e5
  k_extra "st"
  obtain ⟨f6, l6⟩ := f.back t f5
  refine ret T _ _ _ _ _ _ _ e5 .int ?_ ?_ f6 l6
  ·unfold Sc
   rw [Rat.intCast_mul, r_cast]
  ·exact (Dq.int (m := n) (e := 6) (by k_extra "om")).to (by decide) (by decide)
in #guard_msgs in open Nat
theorem c_octets {tp c : Addr} {k : Nat} {Q : Value → Shared → Prop} (hR : Room 10 A) (f : Fm h₀ F₀ W mu F h) (t : Tk [(tp, tapeC c k)] [(tp, tapeC c (k + 1))] mu mu') (hc : TapeOk F c) (hk : k ≤ 100000)
  (ret : ∀ b tb F' h' tk', Oct b → Fm h₀ F₀ W mu' F' h' → Le F F' → Q (.bytes b tb) ⟨h', g, d, tk', os⟩) : wpAny (model prog w) A (call (.ref 820) [.ref tp]) Q E ⟨h, g, d, tk, os⟩ := by
 refine r_use (enter ["tape"] ["drawn", "codes"] [("_law_draw", .ref 806), ("bytes", .type "bytes")] [("tape", some (.ref tp)), ("drawn", none), ("codes", none)] hR f (f.take t) (by unfold K; k_is) (by unfold K; k_is) (BindsTo.of_eq rfl) rfl rfl (by decide) (by decide) (by decide) (Ga.all (.cons (gv__law_draw) (.cons (gv_bytes) .nil))) rfl rfl rfl (by decide) rfl ?_)
 intro env h1 tk1 ok f2 hR2
 k_extra "st"
 k_extra "callk"
 k_extra "st"
 k_extra "cDraw"
 intro r tr F3 h3 tk3 r0 r1 f3 l3
 k_extra "st"
 k_extra "mkl"
 intro D F4 h4 f4 l4 e4
 obtain ⟨t1, t2, t3, t4, e4⟩ : ∃ t1 t2 t3 t4, F4 D = some (lst [.int 32 t1, .int 65 t2, .int 66 t3, .int 200 t4]) := ⟨_, _, _, _, e4⟩
 k_extra "st"
 refine ite_b (fun c1 => ?_) (fun c1 => ?_)
 ·k_extra "st"
  rename Fm h F _ _ _ _ => fe
  obtain ⟨f6, l6⟩ := f.back t fe
  exact ret _ _ _ _ _ (oct_of (ns := []) (fun n hn => nomatch hn) (by decide)) f6 l6
 have c1' : ¬ r = 0 := by simpa using c1
 k_extra "st"
 refine ite_b (fun c2 => ?_) (fun c2 => ?_)
 ·have c2' : r < 5 := by simpa using c2
  k_extra "st"
  k_extra "callb"
  k_extra "st"
  obtain ⟨x, tx, ex, ox⟩ := codes_at (j := r - 1) (by k_extra "om") (by k_extra "om") t1 t2 t3 t4
  k_extra "itm?"
  case h0 => k_extra "om"
  case hk => k_extra "om"
  case hx => exact ex
  k_extra "st"
  k_extra "mkl"
  intro D5 F5 h5 f5 l5 e5
  k_extra "st"
  k_extra "byt"
  case hi => exact .cons _ _ .nil
  case hr => intro n hn; rw [List.mem_singleton.mp hn]; exact okI_byte ox
  case hz => exact Nat.le_of_ble_eq_true rfl
  k_extra "st"
  rename Fm h F _ _ _ _ => fe
  obtain ⟨f6, l6⟩ := f.back t fe
  exact ret _ _ _ _ _ (oct_of (fun n hn => by rw [List.mem_singleton.mp hn]; exact ox) (Nat.le_succ _)) f6 l6
 ·have c2' : 5 ≤ r := by have := of_decide_eq_false c2; k_extra "om"
  k_extra "st"
  k_extra "callb"
  k_extra "st"
  k_extra "div"
  k_extra "st"
  have q1 : (r - 5).fdiv 4 = (r - 5) / 4 := Int.fdiv_eq_ediv_of_nonneg _ (by decide)
  have q2 : (r - 5).fmod 4 = (r - 5) % 4 := Int.fmod_eq_emod_of_nonneg _ (by decide)
  obtain ⟨x, tx, ex, ox⟩ := codes_at (j := (r - 5).fdiv 4) (by k_extra "om") (by k_extra "om") t1 t2 t3 t4
  k_extra "itm?"
  case h0 => k_extra "om"
  case hk => k_extra "om"
  case hx => exact ex
  k_extra "st"
  k_extra "mod"
  obtain ⟨y, ty, ey, oy⟩ := codes_at (j := (r - 5).fmod 4) (by k_extra "om") (by k_extra "om") t1 t2 t3 t4
  k_extra "itm?"
  case h0 => k_extra "om"
  case hk => k_extra "om"
  case hx => exact ey
  k_extra "st"
  k_extra "mkl"
  intro D5 F5 h5 f5 l5 e5
  k_extra "st"
  have oo : ∀ n ∈ [x, y], okI n := fun n hn => by
   rcases List.mem_cons.mp hn with rfl | hn
   ·exact ox
   ·rw [List.mem_singleton.mp hn]; exact oy
  k_extra "byt"
  case hi => exact .cons _ _ (.cons _ _ .nil)
  case hr => exact fun n hn => okI_byte (oo n hn)
  case hz => exact Nat.le_of_ble_eq_true rfl
  k_extra "st"
  rename Fm h F _ _ _ _ => fe
  obtain ⟨f6, l6⟩ := f.back t fe
  exact ret _ _ _ _ _ (oct_of oo (Nat.le_refl _)) f6 l6
in #guard_msgs in open Nat
end
inductive LM (F : Fz) (v : Value) (X : Nat → Nat → Int) : Prop
  | mk (l r0 r1 r2 t00 t01 t02 t10 t11 t12 t20 t21 t22) (e0 : v = .ref l) (e1 : F l = some (lst [.ref r0, .ref r1, .ref r2])) (e2 : F r0 = some (lst [.int (X 0 0) t00, .int (X 0 1) t01, .int (X 0 2) t02])) (e3 : F r1 = some (lst [.int (X 1 0) t10, .int (X 1 1) t11, .int (X 1 2) t12])) (e4 : F r2 = some (lst [.int (X 2 0) t20, .int (X 2 1) t21, .int (X 2 2) t22])) : LM F v X
theorem LM.mono {F F' : Fz} {v : Value} {X : Nat → Nat → Int} (l : Le F F') (h : LM F v X) : LM F' v X := by
 obtain ⟨a, r0, r1, r2, t00, t01, t02, t10, t11, t12, t20, t21, t22, e, h0, h1, h2, h3⟩ := h
 exact ⟨a, r0, r1, r2, t00, t01, t02, t10, t11, t12, t20, t21, t22, e, l _ _ h0, l _ _ h1, l _ _ h2, l _ _ h3⟩
in #guard_msgs in open Nat
noncomputable def m9 (a b c d e f g h i : Int) : Nat → Nat → Int
  | 0, 0 => a | 0, 1 => b | 0, 2 => c | 1, 0 => d | 1, 1 => e | 1, 2 => f | 2, 0 => g | 2, 1 => h | 2, 2 => i | _, _ => 0
theorem LM.mk9 {F : Fz} {l r0 r1 r2 : Addr} {a b c d e f g h i : Int} {t00 t01 t02 t10 t11 t12 t20 t21 t22 : Tok} (h0 : F l = some (lst [.ref r0, .ref r1, .ref r2])) (h1 : F r0 = some (lst [.int a t00, .int b t01, .int c t02]))
  (h2 : F r1 = some (lst [.int d t10, .int e t11, .int f t12])) (h3 : F r2 = some (lst [.int g t20, .int h t21, .int i t22])) : LM F (.ref l) (m9 a b c d e f g h i) := ⟨_, _, _, _, _, _, _, _, _, _, _, _, _, rfl, h0, h1, h2, h3⟩
in #guard_msgs in open Nat
inductive EntV (us : List Value) (x : Int) (q : Nat) : Prop
  | mk (t) (e : us[q]? = some (.int x t)) : EntV us x q
noncomputable def EntsV (us : List Value) (f : Nat → Int) (n : Nat) : Prop := ∀ q, q < n → EntV us (f q) q
inductive RwE (F : Fz) (vs : List Value) (f : Nat → Int) (i : Nat) : Prop
  | mk (r us) (e1 : vs[i]? = some (.ref r)) (e2 : F r = some (lst us)) (e3 : EntsV us f 3) : RwE F vs f i
inductive RwsV (F : Fz) (v : Value) (X : Nat → Nat → Int) : Prop
  | mk (l vs) (e0 : v = .ref l) (e1 : F l = some (lst vs)) (e2 : ∀ i, i < 3 → RwE F vs (X i) i) : RwsV F v X
theorem EntsV.three {x y z : Int} {a b c : Tok} {f : Nat → Int} (hx : x = f 0) (hy : y = f 1) (hz : z = f 2) : EntsV [.int x a, .int y b, .int z c] f 3 := fun k hk => by
 rcases or3 hk with rfl | rfl | rfl
 ·exact ⟨a, by rw [← hx]; rfl⟩
 ·exact ⟨b, by rw [← hy]; rfl⟩
 ·exact ⟨c, by rw [← hz]; rfl⟩ in
theorem LM.rows {F : Fz} {v : Value} {X : Nat → Nat → Int} (h : LM F v X) : RwsV F v X := by
 obtain ⟨l, r0, r1, r2, t00, t01, t02, t10, t11, t12, t20, t21, t22, rfl, h0, h1, h2, h3⟩ := h
 refine ⟨l, _, rfl, h0, fun i hi => ?_⟩
 rcases or3 hi with rfl | rfl | rfl
 ·exact ⟨r0, _, rfl, h1, .three rfl rfl rfl⟩
 ·exact ⟨r1, _, rfl, h2, .three rfl rfl rfl⟩
 ·exact ⟨r2, _, rfl, h3, .three rfl rfl rfl⟩
in #guard_msgs in open Nat
theorem ent_snoc {us : List Value} {k : Nat} {f : Nat → Int} {y : Int} {ty : Tok} (h : EntsV us f k) (l : us.length = k) (e : y = f k) : EntsV (us ++ [Value.int y ty]) f (k + 1) := fun q hq => by
 rcases Nat.lt_or_ge q k with c | c
 ·obtain ⟨t, e⟩ := h q c
  exact ⟨t, by rw [List.getElem?_append_left (l.symm ▸ c)]; exact e⟩
 ·cases Nat.le_antisymm (Nat.le_of_lt_succ hq) c
  exact ⟨ty, by rw [List.getElem?_append_right (Nat.le_of_eq l), l, Nat.sub_self, e]; rfl⟩
in #guard_msgs in open Nat
inductive Int3 (us : List Value) (f : Nat → Int) : Prop
  | mk (t0 t1 t2) (e : us = [.int (f 0) t0, .int (f 1) t1, .int (f 2) t2]) : Int3 us f
theorem len_s {α : Type} {l : List α} {n : Nat} (h : l.length = n + 1) : ∃ a t, l = a :: t ∧ t.length = n := by
 cases l with
 | nil => cases h
 | cons a t => exact ⟨a, t, rfl, Nat.succ.inj h⟩ in
theorem len_0 {α : Type} {l : List α} (h : l.length = 0) : l = [] := List.length_eq_zero_iff.mp h
in #guard_msgs in open Nat
inductive Tri {α : Type} (vs : List α) : Prop
  | mk (a b c : α) (e0 : vs = [a, b, c]) : Tri vs
theorem list_3 {α : Type} {vs : List α} (h : vs.length = 3) : Tri vs := by
 obtain ⟨_, _, z0, h⟩ := len_s h
 obtain ⟨_, _, z1, h⟩ := len_s h
 obtain ⟨_, _, z2, h⟩ := len_s h
 exact ⟨_, _, _, z0.trans (congrArg _ (z1.trans (congrArg _ (z2.trans (congrArg _ (len_0 h))))))⟩ in
theorem ints_3 {us : List Value} {f : Nat → Int} (l : us.length = 3) (h : EntsV us f 3) : Int3 us f := by
 obtain ⟨a, b, c, rfl⟩ := list_3 l
 obtain ⟨t0, e0⟩ := h 0 (by decide)
 obtain ⟨t1, e1⟩ := h 1 (by decide)
 obtain ⟨t2, e2⟩ := h 2 (by decide)
 cases e0; cases e1; cases e2
 exact ⟨t0, t1, t2, rfl⟩
in #guard_msgs in open Nat
structure ScM (X : Nat → Nat → Int) (M : M6) : Prop where
  a : Sc (X 0 0) M.a
  b : Sc (X 0 1) M.b
  p : X 0 2 = 0
  c : Sc (X 1 0) M.c
  d : Sc (X 1 1) M.d
  q : X 1 2 = 0
  e : Sc (X 2 0) M.e
  f : Sc (X 2 1) M.f
  r : X 2 2 = 10 ^ 40
inductive LMat (F : Fz) (v : Value) (M : M6) : Prop
  | mk (X) (e0 : LM F v X) (e1 : ScM X M) : LMat F v M
theorem LMat.mono {F F' : Fz} {v : Value} {M : M6} (l : Le F F') (h : LMat F v M) : LMat F' v M := by
 obtain ⟨X, a, b⟩ := h
 exact ⟨X, a.mono l, b⟩
in #guard_msgs in open Nat
section
variable {A : Around} {h₀ h : Heap} {F₀ F : Fz} {W : List Addr} {mu mu' : Mu} {tk : Nat}
theorem c_shift {R U : Int} {tr tu : Tok} {x y : Rat} {Q : Value → Shared → Prop} (hR : Room 8 A) (f : Fm h₀ F₀ W mu F h) (hx : Sc R x) (hy : Sc U y)
  (ret : ∀ v F' h' tk', LMat F' v (M6.shift x y) → Fm h₀ F₀ W mu F' h' → Le F F' → Q v ⟨h', g, d, tk', os⟩) : wpAny (model prog w) A (call (.ref 832) [.int R tr, .int U tu]) Q E ⟨h, g, d, tk, os⟩ := by
 have t : Tk [] [] mu mu := .nil
 refine r_use (enter ["right", "up"] [] [("_law_unit", .ref 798)] [("right", some (.int R tr)), ("up", some (.int U tu))] hR f (f.take t) (by unfold K; k_is) (by unfold K; k_is) (BindsTo.of_eq rfl) rfl rfl (by decide) (by decide) (by decide) (Ga.all (.cons (gv__law_unit) .nil)) rfl rfl rfl (by decide) rfl ?_)
 intro env h1 tk1 ok f2 hR2
 k_extra "st"
 k_extra "callk"
 k_extra "cUnit"
 intro t1 F3 h3 tk3 f3 l3
 k_extra "st"
 k_extra "mkl"
 intro r0 F4 h4 f4 l4 e4
 k_extra "st"
 k_extra "callk"
 k_extra "cUnit"
 intro t1 F5 h5 tk5 f5 l5
 k_extra "st"
 k_extra "mkl"
 intro r1 F6 h6 f6 l6 e6
 k_extra "st"
 k_extra "callk"
 k_extra "cUnit"
 intro t1 F7 h7 tk7 f7 l7
 k_extra "st"
 k_extra "mkl"
 intro r2 F8 h8 f8 l8 e8
 k_extra "st"
 k_extra "mkl"
 intro r F9 h9 f9 l9 e9
 k_extra "st"
 refine' ret _ F9 _ _ ⟨_, LM.mk9 e9 ?ea ?eb ?ec, ?ed⟩ (f.back t f9).1 (f.back t f9).2
 case ea => k_extra "fz"
 case eb => k_extra "fz"
 case ec => k_extra "fz"
 exact ⟨.one, .zero, rfl, .zero, .one, rfl, hx, hy, rfl⟩
in #guard_msgs in open Nat
theorem c_six {s : Addr} {a b c d' e f' : Int} {t0 t1 t2 t3 t4 t5 : Tok} {M : M6} {Q : Value → Shared → Prop} (hR : Room 8 A) (f : Fm h₀ F₀ W mu F h) (hs : F s = some (lst [.int a t0, .int b t1, .int c t2, .int d' t3, .int e t4, .int f' t5]))
  (h0 : Sc a M.a) (h1 : Sc b M.b) (h2 : Sc c M.c) (h3 : Sc d' M.d) (h4 : Sc e M.e) (h5 : Sc f' M.f)
  (ret : ∀ v F' h' tk', LMat F' v M → Fm h₀ F₀ W mu F' h' → Le F F' → Q v ⟨h', g, d, tk', os⟩) : wpAny (model prog w) A (call (.ref 839) [.ref s]) Q E ⟨h, g, d, tk, os⟩ := by
 have t : Tk [] [] mu mu := .nil
 refine r_use (enter ["six"] [] [("_law_unit", .ref 798)] [("six", some (.ref s))] hR f (f.take t) (by unfold K; k_is) (by unfold K; k_is) (BindsTo.of_eq rfl) rfl rfl (by decide) (by decide) (by decide) (Ga.all (.cons (gv__law_unit) .nil)) rfl rfl rfl (by decide) rfl ?_)
 intro env h1 tk1 ok f2 hR2
 k_extra "st"
 k_extra "mkl"
 intro r0 F4 h4 f4 l4 e4
 k_extra "st"
 k_extra "mkl"
 intro r1 F6 h6 f6 l6 e6
 k_extra "st"
 k_extra "callk"
 k_extra "cUnit"
 intro t1 F7 h7 tk7 f7 l7
 k_extra "st"
 k_extra "mkl"
 intro r2 F8 h8 f8 l8 e8
 k_extra "st"
 k_extra "mkl"
 intro r F9 h9 f9 l9 e9
 k_extra "st"
 refine' ret _ F9 _ _ ⟨_, LM.mk9 e9 ?ea ?eb ?ec, ?ed⟩ (f.back t f9).1 (f.back t f9).2
 case ea => k_extra "fz"
 case eb => k_extra "fz"
 case ec => k_extra "fz"
 exact ⟨by assumption, by assumption, rfl, by assumption, by assumption, rfl, by assumption, by assumption, rfl⟩
in #guard_msgs in open Nat
noncomputable def pr (X Y : Nat → Nat → Int) (i j : Nat) : Int := (X i 0 * Y 0 j + (X i 1 * Y 1 j + (X i 2 * Y 2 j + 0))).fdiv (10 ^ 40)
inductive RwM (F : Fz) (rs : List Value) (f : Nat → Int) (k : Nat) : Prop
  | mk (r ta tb tc) (e : rs[k]? = some (.ref r)) (g : F r = some (lst [.int (f 0) ta, .int (f 1) tb, .int (f 2) tc])) : RwM F rs f k
inductive JM (D L l1 l2 : Addr) (Z : Nat → Nat → Int) (i : Nat) (ls : Fs) (mu : Mu) (F : Fz) : Prop
  | mk (rs ho) (e : ls = ([("rows", some (.ref D))] : Fs)) (em : mu = ([(D, lst rs), (L + 1 + 1 + 1, cel ho), (L + 1 + 1, cel (some (.ref l2))), (L + 1, cel (some (.ref l1)))] : Mu)) (hl : rs.length = i) (hr : ∀ k, k < i → RwM F rs (Z k) k) : JM D L l1 l2 Z i ls mu F
theorem c_prod0 {v1 v2 : Value} {X Y : Nat → Nat → Int} {Q : Value → Shared → Prop} (hR : Room 8 A) (f : Fm h₀ F₀ W mu F h) (hX : LM F v1 X) (hY : LM F v2 Y) (hm : ∀ i k j, i < 3 → k < 3 → j < 3 → IntMulOk (X i k) (Y k j))
  (ret : ∀ v F' h' tk', LM F' v (pr X Y) → Fm h₀ F₀ W mu F' h' → Le F F' → Q v ⟨h', g, d, tk', os⟩) : wpAny (model prog w) A (call (.ref 825) [v1, v2]) Q E ⟨h, g, d, tk, os⟩ := by
 have t : Tk [] [] mu mu := .nil
 refine r_use (enterC [] ["rows"] [("range", .type "range")] [("rows", none)] (fun L => [(L + 1 + 1 + 1, cel none), (L + 1 + 1, cel (some (v2))), (L + 1, cel (some (v1)))]) hR f (f.take t) (by unfold K; k_is) (by unfold K; k_is) (BindsTo.of_eq rfl) rfl rfl (fun L => rfl) (of_decide_eq_true rfl) rfl (by decide) (Ga.all (.cons (gv_range) .nil)) rfl rfl rfl (by decide) (by decide) rfl ?_)
 intro env h1 tk1 L ok hcl f2 hR2
 have c1 : Cl env "one" (L + 1) := ⟨.inl (hcl "one" (L + 1) (.tail _ (.tail _ (.head _)))).1.1, (hcl "one" (L + 1) (.tail _ (.tail _ (.head _)))).1.2⟩
 have c2 : Cl env "other" (L + 1 + 1) := ⟨.inl (hcl "other" (L + 1 + 1) (.tail _ (.head _))).1.1, (hcl "other" (L + 1 + 1) (.tail _ (.head _))).1.2⟩
 have c3 := hcl "high" (L + 1 + 1 + 1) (.head _)
 have c3' : Cl env "high" (L + 1 + 1 + 1) := ⟨.inl c3.1.1, c3.1.2⟩
 k_extra "st"
 k_extra "mklM"
 intro D h3 f3 oD
 k_extra "st"
 k_extra "callb"
 k_extra "st"
 k_extra "rng"
 intro R F4 h4 tk4 f4 l4 e4
 obtain ⟨l1, vs1, rfl, hl1, hr1⟩ := hX.rows
 obtain ⟨l2, vs2, rfl, hl2, hr2⟩ := hY.rows
 refine for_range (n := 3) (a := 0) (JM D L l1 l2 (pr X Y))
  (by k_extra "hd") e4 (by decide) (by decide) f4 ⟨_, _, rfl, rfl, rfl, fun k hk => absurd hk (Nat.not_lt_zero _)⟩ ?_ ?_ (fun I v => rfl)
 ·rintro I i t ls' mu' F5 h5 tk5 hi ⟨rs, ho, rfl, rfl, hl, hr⟩ l5 f5
  k_extra "st"
  refine r_celset ok f5 c3.1 (.tail _ (.tail _ (.tail _ (.head _)))) (.tail (.tail (.tail .head))) fun h6 f6 => ?_
  k_extra "st"
  k_extra "gmA"
  k_extra "cwB"
  k_extra "st"
  refine r_comp (cl := [("other", L + 1 + 1), ("one", L + 1), ("high", L + 1 + 1 + 1)]) (by simp [clos, c1.lies, c2.lies, c3'.lies]) rfl (by decide) (fun _ => rfl) ?_
  k_extra "callb"
  k_extra "st"
  k_extra "rng"
  intro R' F7 h7 tk7 f7 l7 e7
  refine iter_range (a := 0) (n := 3) f7 e7 (by decide) (by decide) fun I2 h8 f8 o8 => ?_
  refine comp_goCK (fun j vs _ => EntsV vs (pr X Y i) j) (Src.range (by k_extra "hd")) f8 o8 (fun k hk => absurd hk (Nat.not_lt_zero _)) (by decide) (fun _ => rfl) (fun _ => rfl) rfl rfl ?_ ?_
  ·rintro C cx j v vs F9 h9 tk9 hj ⟨tv, rfl⟩ hvl hvs l9 cok D' f9
   have ok' := cok.ok [("sum", .builtin "sum"), ("range", .type "range"), ("_law_unit", .ref 798)] ok rfl (by decide) (Ga.all (.cons (gv_sum) (.cons (gv_range) (.cons (gv__law_unit) .nil))))
   have k1 := cok.cl (x := "one") (.inl rfl) rfl
   have k2 := cok.cl (x := "other") (.inl rfl) rfl
   have k3 := cok.cl (x := "high") (.inl rfl) rfl
   have k4 := cok.cl (x := "low") (.inr rfl) rfl
   k_extra "st"
   k_extra "callb"
   k_extra "st"
   refine r_comp (cl := [("other", L + 1 + 1), ("one", L + 1), ("low", cx), ("high", L + 1 + 1 + 1)]) (by simp [clos, k1.lies, k2.lies, k3.lies, k4.lies]) rfl (by decide) (fun _ => rfl) ?_
   k_extra "callb"
   k_extra "st"
   k_extra "rng"
   intro R'' F10 h10 tk10 f10 l10 e10
   refine iter_range (a := 0) (n := 3) f10 e10 (by decide) (by decide) fun I3 h11 f11 o11 => ?_
   refine comp_goK (fun k us _ => EntsV us (fun q => X i q * Y q j) k) (Src.range (by k_extra "hd")) f11 o11 (fun k hk => absurd hk (Nat.not_lt_zero _)) (by decide) rfl rfl rfl ?_ ?_
   ·rintro C2 k v us F12 h12 tk12 hk3 ⟨tv2, rfl⟩ hul hus l12 cok2 D2 f12
    have ok2 := cok2.ok [] ok' rfl (by decide) (Ga.all .nil)
    have k1 := cok2.cl (x := "one") (.inl rfl) rfl
    have k2 := cok2.cl (x := "other") (.inl rfl) rfl
    have k3 := cok2.cl (x := "high") (.inl rfl) rfl
    have k4 := cok2.cl (x := "low") (.inl rfl) rfl
    obtain ⟨ri, ui, e1, e2, e3⟩ := hr1 i hi
    obtain ⟨tx, e3⟩ := e3 k hk3
    obtain ⟨rk, uk, g1, g2, g3⟩ := hr2 k hk3
    obtain ⟨ty, g3⟩ := g3 j hj
    k_extra "st"
    k_extra "itm?"
    case h0 => k_extra "om"
    case hk => k_extra "om"
    case hx => exact (by rw [show (0 + (i : Int)).toNat = i by k_extra "om"]; exact e1)
    k_extra "st"
    k_extra "itm?"
    case h0 => k_extra "om"
    case hk => k_extra "om"
    case hx => exact (by rw [show (0 + (k : Int) * 1).toNat = k by k_extra "om"]; exact e3)
    k_extra "st"
    k_extra "itm?"
    case h0 => k_extra "om"
    case hk => k_extra "om"
    case hx => exact (by rw [show (0 + (k : Int) * 1).toNat = k by k_extra "om"]; exact g1)
    k_extra "st"
    k_extra "itm?"
    case h0 => k_extra "om"
    case hk => k_extra "om"
    case hx => exact (by rw [show (0 + (j : Int) * 1).toNat = j by k_extra "om"]; exact g3)
    k_extra "mul"
    case hm => exact hm i k j hi hk3 hj
    refine ⟨F12, _, _, rfl, f12, l12, ?_⟩
    exact ent_snoc (f := fun q => X i q * Y q j) hus hul rfl
   ·rintro Ds us F13 F14 h14 tk14 hul hus l13 l14 eD f14
    obtain ⟨ta, tb, tc, rfl⟩ := ints_3 (f := fun q => X i q * Y q j) hul hus
    k_extra "st"
    k_extra "sum"
    case hi => exact .cons _ _ (.cons _ _ (.cons _ _ .nil))
    k_extra "st"
    k_extra "callk"
    k_extra "cUnit"
    intro tu F15 h15 tk15 f15 l15
    k_extra "div"
    refine ⟨F15, _, _, rfl, f15, by k_extra "le", ?_⟩
    exact ent_snoc hvs hvl rfl
  ·rintro Ds us F13 F14 h14 tk14 hul hus l13 l14 eD f14
   obtain ⟨ta, tb, tc, rfl⟩ := ints_3 hul hus
   k_extra "st"
   k_extra "app"
   case hz => k_extra "om"
   k_extra "st"
   rename Fm h F _ _ _ _ => fe
   refine ⟨_, _, F14, _, _, rfl, fe, by k_extra "le", _, _, rfl, rfl, by rw [List.length_append, hl]; rfl, fun k hk => ?_⟩
   rcases Nat.lt_or_ge k i with c | c
   ·obtain ⟨r, ta, tb, tc, e1, e2⟩ := hr k c
    exact ⟨r, ta, tb, tc, by rw [List.getElem?_append_left (hl.symm ▸ c)]; exact e1, by k_extra "fz"⟩
   ·cases Nat.le_antisymm (Nat.le_of_lt_succ hk) c
    exact ⟨Ds, ta, tb, tc, by rw [List.getElem?_append_right (Nat.le_of_eq hl), hl, Nat.sub_self]; rfl, eD⟩
 ·rintro ls' mu' F5 h5 tk5 ⟨rs, ho, rfl, rfl, hl, hr⟩ l5 f5
  obtain ⟨ra, rb, rc, rfl⟩ := list_3 hl
  obtain ⟨r0, t00, t01, t02, e0, g0⟩ := hr 0 (by decide)
  obtain ⟨r1, t10, t11, t12, e1, g1⟩ := hr 1 (by decide)
  obtain ⟨r2, t20, t21, t22, e2, g2⟩ := hr 2 (by decide)
  cases e0; cases e1; cases e2
  k_extra "st"
  have f6 := f5.freeze (.tail .head) oD.h0 oD.nw
  have l6 : Le F5 (F5.set D (lst [.ref r0, .ref r1, .ref r2])) := Fz.le_set (f5.mus.has (D, _) (.tail _ (.head _))).2
  have f7 := ((f6.lose (.tail .head) (fun _ _ _ e => e) (hcl "high" (L + 1 + 1 + 1) (.head _)).2.h0 (hcl "high" (L + 1 + 1 + 1) (.head _)).2.nw).lose (.tail .head) (fun _ _ _ e => e) (hcl "other" (L + 1 + 1) (.tail _ (.head _))).2.h0 (hcl "other" (L + 1 + 1) (.tail _ (.head _))).2.nw).lose (.tail .head) (fun _ _ _ e => e) (hcl "one" (L + 1) (.tail _ (.tail _ (.head _)))).2.h0 (hcl "one" (L + 1) (.tail _ (.tail _ (.head _)))).2.nw
  exact ret _ _ _ _ ⟨D, r0, r1, r2, t00, t01, t02, t10, t11, t12, t20, t21, t22, rfl, Fz.set_self, l6 _ _ g0, l6 _ _ g1, l6 _ _ g2⟩ (f.back t f7).1 (f.back t f7).2
in #guard_msgs in open Nat
end
theorem Sc.bits {X : Int} {x : Rat} {p n : Nat} (s : Sc X x) (d : Dq p n x) (hp : p ≤ 40) : X.natAbs < 2 ^ (n + 160) := by
 obtain ⟨m, a, b⟩ := d.to (q := 40) hp (e' := n + 160) (by k_extra "om")
 have e : X = m := Rat.intCast_inj.mp (by unfold Sc at s; rw [s, a])
 rw [e]; exact b in
theorem ten_40 : ((10 : Int) ^ 40).natAbs < 2 ^ 160 := by decide
in #guard_msgs in open Nat
theorem nbits {x : Int} {e f : Nat} (h : x.natAbs < 2 ^ e) (l : e ≤ f) : x.natAbs < 2 ^ f := Nat.lt_of_lt_of_le h (Nat.pow_le_pow_right (by decide) l) in
theorem LM.prod {X Y : Nat → Nat → Int} {M N : M6} {p q n p' q' n' : Nat} (a : Mq p q n M) (b : Mq p' q' n' N) (h1 : p + p' ≤ 40) (h2 : q + p' ≤ 40) (h3 : q' ≤ 40)
  (hx : ScM X M)
  (hy : ScM Y N) :
  ScM (pr X Y) (M.mul N) := by
 obtain ⟨xa, xb, x2, xc, xd, x5, xe, xf, x8⟩ := hx
 obtain ⟨ya, yb, y2, yc, yd, y5, ye, yf, y8⟩ := hy
 have m := Mq.mul (P := p + p') (Q := 40) (N := n + n' + 400) a b rfl h2 h3 (by k_extra "om")
 have m' := m.to (p' := 40) (q' := 40) (n' := n + n' + 600) h1 (Nat.le_refl _) (by k_extra "om") (by k_extra "om")
 have s2 : ∀ {A B C D P E : Int} {x y z w : Rat}, Sc A x → Sc B y → Sc C z → Sc D w → P = 0 → Sd2 (A * B + (C * D + (P * E + 0))) (x * y + z * w) := fun h1 h2 h3 h4 h5 => by
  have := (h1.mul h2).add (h3.mul h4)
  rwa [h5, Int.zero_mul, show (0 : Int) + 0 = 0 from rfl, Int.add_zero]
 have s3 : ∀ {A B C D P E : Int} {x y z w u : Rat}, Sc A x → Sc B y → Sc C z → Sc D w → P = 10 ^ 40 → Sc E u → Sd2 (A * B + (C * D + (P * E + 0))) (x * y + z * w + u) := fun h1 h2 h3 h4 h5 h6 => by
  have := ((h1.mul h2).add (h3.mul h4)).add (Sc.one.mul h6)
  rw [Rat.one_mul] at this
  rwa [h5, Int.add_zero, ← Int.add_assoc]
 refine ⟨Sd2.div (s2 xa ya xb yc x2) m'.a, Sd2.div (s2 xa yb xb yd x2) m'.b, ?_, Sd2.div (s2 xc ya xd yc x5) m'.c, Sd2.div (s2 xc yb xd yd x5) m'.d, ?_, Sd2.div (s3 xe ya xf yc x8 ye) m'.e, Sd2.div (s3 xe yb xf yd x8 yf) m'.f, ?_⟩
 ·show (X 0 0 * Y 0 2 + (X 0 1 * Y 1 2 + (X 0 2 * Y 2 2 + 0))).fdiv (10 ^ 40) = 0
  rw [y2, y5, x2, Int.mul_zero, Int.mul_zero, Int.zero_mul]; rfl
 ·show (X 1 0 * Y 0 2 + (X 1 1 * Y 1 2 + (X 1 2 * Y 2 2 + 0))).fdiv (10 ^ 40) = 0
  rw [y2, y5, x5, Int.mul_zero, Int.mul_zero, Int.zero_mul]; rfl
 ·show (X 2 0 * Y 0 2 + (X 2 1 * Y 1 2 + (X 2 2 * Y 2 2 + 0))).fdiv (10 ^ 40) = 10 ^ 40
  rw [y2, y5, x8, y8, Int.mul_zero, Int.mul_zero]
  exact fdiv_exact (Z := 10 ^ 40) (by k_extra "om")
in #guard_msgs in open Nat
theorem LM.bits {X : Nat → Nat → Int} {M : M6} {p q n : Nat} (a : Mq p q n M) (hp : p ≤ 40) (hq : q ≤ 40)
  (hx : ScM X M) : ∀ i k, i < 3 → k < 3 → (X i k).natAbs < 2 ^ (n + 160) := by
 obtain ⟨xa, xb, x2, xc, xd, x5, xe, xf, x8⟩ := hx
 intro i k hi hk
 have i' : i = 0 ∨ i = 1 ∨ i = 2 := by k_extra "om"
 have k' : k = 0 ∨ k = 1 ∨ k = 2 := by k_extra "om"
 rcases i' with rfl | rfl | rfl <;> rcases k' with rfl | rfl | rfl
 ·exact xa.bits a.a hp
 ·exact xb.bits a.b hp
 ·rw [x2]; exact Nat.pow_pos (by decide)
 ·exact xc.bits a.c hp
 ·exact xd.bits a.d hp
 ·rw [x5]; exact Nat.pow_pos (by decide)
 ·exact xe.bits a.e hq
 ·exact xf.bits a.f hq
 ·rw [x8]; exact nbits ten_40 (by k_extra "om")
in #guard_msgs in open Nat
section
variable {A : Around} {h₀ h : Heap} {F₀ F : Fz} {W : List Addr} {mu mu' : Mu} {tk : Nat}
theorem c_prod {v1 v2 : Value} {M N : M6} {p q n p' q' n' : Nat} {Q : Value → Shared → Prop} (hR : Room 8 A) (f : Fm h₀ F₀ W mu F h) (k1 : LMat F v1 M) (k2 : LMat F v2 N) (a : Mq p q n M) (b : Mq p' q' n' N) (h1 : p + p' ≤ 40) (h2 : q + p' ≤ 40) (h3 : q' ≤ 40) (hn : n + n' ≤ 1000000)
  (ret : ∀ v F' h' tk', LMat F' v (M.mul N) → Fm h₀ F₀ W mu F' h' → Le F F' → Q v ⟨h', g, d, tk', os⟩) : wpAny (model prog w) A (call (.ref 825) [v1, v2]) Q E ⟨h, g, d, tk, os⟩ := by
 obtain ⟨X, hX, kX⟩ := k1
 obtain ⟨Y, hY, kY⟩ := k2
 refine c_prod0 hR f hX hY (fun i k j hi hk hj => bits_small (LM.bits a (by k_extra "om") (by k_extra "om") kX i k hi hk) (LM.bits b (by k_extra "om") h3 kY k j hk hj) (by k_extra "om")) fun v F' h' tk' hv f' l' => ?_
 exact ret v F' h' tk' ⟨_, hv, LM.prod a b h1 h2 h3 kX kY⟩ f' l'
in #guard_msgs in open Nat
end
noncomputable def gtext (font : Bool) (code : Int) : Str := if font then (if code = 32 then " " else if code = 65 then "a" else if code = 66 then "" else "fi") else (if code = 65 then "†" else if code = 200 then "…" else "")
noncomputable def gwide (font : Bool) (code : Int) : Int := if font then (if code = 65 then 250 else if code = 66 then 1000 else 333) else (if code ≤ 66 then 700 else 0)
noncomputable def fname (font : Bool) : Str := if font then "A" else "B"
section
variable {A : Around} {h₀ h : Heap} {F₀ F : Fz} {W : List Addr} {mu mu' : Mu} {tk : Nat}
theorem c_code {font : Bool} {tf tc : Tok} {c : Int} {Q : Value → Shared → Prop} (hR : Room 6 A) (f : Fm h₀ F₀ W mu F h) (hc : okI c)
  (ret : ∀ T t1 t2 F' h' tk', F' T = some (tup [.str (gtext font c) t1, .int (gwide font c) t2]) → Fm h₀ F₀ W mu F' h' → Le F F' → Q (.ref T) ⟨h', g, d, tk', os⟩) : wpAny (model prog w) A (call (.ref 853) [.str (fname font) tf, .int c tc]) Q E ⟨h, g, d, tk, os⟩ := by
 have t : Tk [] [] mu mu := .nil
 cases font with
 | true =>
  show wpAny (model prog w) A (call (.ref 853) [.str ("A" : Str) tf, .int c tc]) Q E ⟨h, g, d, tk, os⟩
  refine r_use (enter ["font", "code"] [] [] [("font", some (.str ("A" : Str) tf)), ("code", some (.int c tc))] hR f (f.take t) (by unfold K; k_is) (by unfold K; k_is) (BindsTo.of_eq rfl) rfl rfl (by decide) (by decide) (by decide) (Ga.all .nil) rfl rfl rfl (by decide) rfl ?_)
  intro env h1 tk1 ok f2 hR2
  k_extra "st"
  try k_extra "eqs"
  k_extra "st"
  k_extra "dI"
  intro D h3 f3 o3 ns3
  k_extra "st"
  k_extra "mkd"
  k_extra "st"
  rcases hc with rfl | rfl | rfl | rfl
  all_goals
   k_extra "itD"
   k_extra "st"
   k_extra "dI"
   intro D2 h4 f4 o4 ns4
   k_extra "st"
   k_extra "mkd"
   k_extra "gmG"
   k_extra "cwB"
   k_extra "st"
   k_extra "get"
   k_extra "st"
   k_extra "mkt"
   intro T F5 h5 f5 l5 e5
   k_extra "st"
   exact ret T _ _ F5 _ _ e5 (f.back t ((f5.lose (.tail .head) (fun _ _ _ e => e) o4.h0 o4.nw).lose (.tail .head) (fun _ _ _ e => e) o3.h0 o3.nw)).1 l5
 | false =>
  show wpAny (model prog w) A (call (.ref 853) [.str ("B" : Str) tf, .int c tc]) Q E ⟨h, g, d, tk, os⟩
  refine r_use (enter ["font", "code"] [] [] [("font", some (.str ("B" : Str) tf)), ("code", some (.int c tc))] hR f (f.take t) (by unfold K; k_is) (by unfold K; k_is) (BindsTo.of_eq rfl) rfl rfl (by decide) (by decide) (by decide) (Ga.all .nil) rfl rfl rfl (by decide) rfl ?_)
  intro env h1 tk1 ok f2 hR2
  k_extra "st"
  try k_extra "eqs"
  k_extra "st"
  k_extra "dI"
  intro D2 h4 f4 o4 ns4
  k_extra "st"
  k_extra "mkd"
  k_extra "gmG"
  k_extra "cwB"
  k_extra "st"
  rcases hc with rfl | rfl | rfl | rfl
  all_goals
   k_extra "get"
   k_extra "st"
   k_extra "itc"
   k_extra "st"
   k_extra "mkt"
   intro T F5 h5 f5 l5 e5
   k_extra "st"
   exact ret T _ _ F5 _ _ e5 (f.back t (f5.lose (.tail .head) (fun _ _ _ e => e) o4.h0 o4.nw)).1 l5
in #guard_msgs in open Nat
end
structure TS where
  ctm : M6
  font : Bool
  size : Rat
  Tc : Rat
  Tw : Rat
  Tz : Rat
  TL : Rat
  Ts : Rat
  set : Bool
structure Row where
  text : Str
  x : Rat
  y : Rat
  width : Rat
  size : Rat
noncomputable def wd (font : Bool) (c : Int) : Rat := (gwide font c : Rat) / 1000
noncomputable def across (s : TS) : Rat := s.size * s.Tz / 100
noncomputable def inner (s : TS) : M6 := ⟨across s, 0, 0, s.size, 0, s.Ts⟩
noncomputable def way (s : TS) (c : Int) : Rat := (wd s.font c * s.size + s.Tc + (if c = 32 then s.Tw else 0)) * s.Tz / 100
noncomputable def ontoL (s : TS) (pl : M6) : M6 := ((inner s).mul pl).mul s.ctm
noncomputable def rowOf (s : TS) (pl : M6) (c : Int) : Row := ⟨gtext s.font c, (ontoL s pl).e, (ontoL s pl).f, wd s.font c * (ontoL s pl).a, (ontoL s pl).d⟩
noncomputable def placeOf (s : TS) (pl : M6) (c : Int) : M6 := (M6.shift (way s c) 0).mul pl
noncomputable def showR (s : TS) : M6 → List Int → List Row
  | _, [] => []
  | pl, c :: r => rowOf s pl c :: showR s (placeOf s pl c) r
noncomputable def showP (s : TS) : M6 → List Int → M6
  | pl, [] => pl
  | pl, c :: r => showP s (placeOf s pl c) r
theorem showR_snoc (s : TS) (c : Int) : ∀ (pl : M6) (l : List Int), showR s pl (l ++ [c]) = showR s pl l ++ [rowOf s (showP s pl l) c]
 | _, [] => rfl
 | pl, x :: l => by show _ :: showR s _ (l ++ [c]) = _; rw [showR_snoc s c _ l]; rfl in
theorem showP_snoc (s : TS) (c : Int) : ∀ (pl : M6) (l : List Int), showP s pl (l ++ [c]) = placeOf s (showP s pl l) c
 | _, [] => rfl
 | pl, x :: l => showP_snoc s c _ l
in #guard_msgs in open Nat
structure TsQ (c N : Nat) (s : TS) : Prop where
  ctm : Mq c (c + 1) N s.ctm
  size : Dq 1 10 s.size
  Tc : Dq 1 10 s.Tc
  Tw : Dq 1 10 s.Tw
  Tz : Dq 1 10 s.Tz
  TL : Dq 1 10 s.TL
  Ts : Dq 1 10 s.Ts
structure RowQ (E : Nat) (r : Row) : Prop where
  x : Dq 40 E r.x
  y : Dq 40 E r.y
  width : Dq 40 E r.width
  size : Dq 40 E r.size
theorem Dq.div {p e : Nat} {x : Rat} (h : Dq p e x) (k : Nat) : Dq (p + k) e (x / 10 ^ k) := by
 obtain ⟨m, a, b⟩ := h
 refine ⟨m, ?_, b⟩
 have := r_ten k
 rw [← a, Nat.add_comm, r_pw]; grind in
theorem gwide_le (font : Bool) (c : Int) : (gwide font c).natAbs < 2 ^ 10 := by
 unfold gwide
 repeat' split
 all_goals decide
in #guard_msgs in open Nat
theorem wd_q (font : Bool) (c : Int) : Dq 3 10 (wd font c) := by
 have := (Dq.int (gwide_le font c)).div 3
 rwa [Nat.zero_add, show (10 : Rat) ^ 3 = 1000 from by rw [show (3 : Nat) = 0 + 1 + 1 + 1 from rfl, Rat.pow_succ, Rat.pow_succ, Rat.pow_succ, Rat.pow_zero]; grind] at this in
theorem hund : (10 : Rat) ^ 2 = 100 := by rw [show (2 : Nat) = 0 + 1 + 1 from rfl, Rat.pow_succ, Rat.pow_succ, Rat.pow_zero]; grind
in #guard_msgs in open Nat
theorem across_q {c N : Nat} {s : TS} (q : TsQ c N s) : Dq 4 20 (across s) := by
 have := (q.size.mul q.Tz).div 2
 rw [hund] at this; exact this in
theorem step_q {c N : Nat} {s : TS} (q : TsQ c N s) (k : Int) : Dq 4 33 (wd s.font k * s.size + s.Tc + (if k = 32 then s.Tw else 0)) := by
 have h1 := (wd_q s.font k).mul q.size
 have h2 := q.Tc.to (q := 4) (e' := 22) (by decide) (by decide)
 have h3 : Dq 4 22 (if k = 32 then s.Tw else 0) := by
  split
  ·exact q.Tw.to (by decide) (by decide)
  ·exact Dq.zero
 exact ((h1.add h2).add h3).mono (by decide)
in #guard_msgs in open Nat
theorem way_q {c N : Nat} {s : TS} (q : TsQ c N s) (k : Int) : Dq 7 43 (way s k) := by
 have := ((step_q q k).mul q.Tz).div 2
 rw [hund] at this
 exact this in
theorem inner_q {c N : Nat} {s : TS} (q : TsQ c N s) : Mq 4 1 22 (inner s) :=
 ⟨(across_q q).mono (by decide), Dq.zero, Dq.zero, q.size.to (by decide) (by decide), Dq.zero, q.Ts.mono (by decide)⟩
in #guard_msgs in open Nat
theorem onto_q {c N : Nat} {s : TS} {pl : M6} (q : TsQ c N s) (hp : Mq 1 10 N pl) : Mq (5 + c) (11 + c) (2 * N + 200 + 8 * c) (ontoL s pl) := by
 have h1 : Mq 5 10 (N + 64) ((inner s).mul pl) := (inner_q q).mul hp rfl (by decide) (by decide) (by k_extra "om")
 exact h1.mul q.ctm rfl (by k_extra "om") (by k_extra "om") (by k_extra "om")
in #guard_msgs in open Nat
theorem shift_q {p e : Nat} {x y : Rat} (hx : Dq p e x) (hy : Dq p e y) (he : 1 ≤ e) : Mq 0 p e (M6.shift x y) :=
 ⟨(Dq.int (m := 1) (e := 1) (by decide)).mono he, Dq.zero, Dq.zero, (Dq.int (m := 1) (e := 1) (by decide)).mono he, hx, hy⟩ in
theorem place_q {c N : Nat} {s : TS} {pl : M6} (q : TsQ c N s) (hp : Mq 1 10 N pl) (k : Int) : Mq 1 10 (N + 100) (placeOf s pl k) :=
 (shift_q (way_q q k) Dq.zero (by decide)).mul hp rfl (by decide) (by decide) (by k_extra "om")
in #guard_msgs in open Nat
theorem row_q {c N : Nat} {s : TS} {pl : M6} (q : TsQ c N s) (hp : Mq 1 10 N pl) (hc : c ≤ 24) (k : Int) : RowQ (2 * N + 1000) (rowOf s pl k) := by
 have h := onto_q q hp
 exact ⟨h.e.to (by k_extra "om") (by k_extra "om"), h.f.to (by k_extra "om") (by k_extra "om"), ((wd_q s.font k).mul h.a).to (by k_extra "om") (by k_extra "om"), h.d.to (by k_extra "om") (by k_extra "om")⟩
in #guard_msgs in open Nat
theorem showP_q {c N : Nat} {s : TS} : ∀ {pl : M6} {M : Nat} (l : List Int), TsQ c N s → Mq 1 10 M pl → N ≤ M → Mq 1 10 (M + 100 * l.length) (showP s pl l)
 | pl, M, [], q, hp, hN => hp
 | pl, M, x :: l, q, hp, hN => by
  have q' : TsQ c M s := ⟨q.ctm.to (Nat.le_refl _) (Nat.le_refl _) (by k_extra "om") (by k_extra "om"), q.size, q.Tc, q.Tw, q.Tz, q.TL, q.Ts⟩
  have := showP_q (M := M + 100) l q (place_q q' hp x) (by k_extra "om")
  rw [List.length_cons]
  exact this.to (Nat.le_refl _) (Nat.le_refl _) (by k_extra "om") (by k_extra "om")
in #guard_msgs in open Nat
theorem showR_q {c N : Nat} {s : TS} : ∀ {pl : M6} {M E : Nat} (l : List Int), TsQ c N s → Mq 1 10 M pl → N ≤ M → c ≤ 24 → 2 * (M + 100 * l.length) + 1000 ≤ E → ∀ r ∈ showR s pl l, RowQ E r
 | pl, M, E, [], q, hp, hN, hc, hE => fun r hr => nomatch hr
 | pl, M, E, x :: l, q, hp, hN, hc, hE => by
  have q' : TsQ c M s := ⟨q.ctm.to (Nat.le_refl _) (Nat.le_refl _) (by k_extra "om") (by k_extra "om"), q.size, q.Tc, q.Tw, q.Tz, q.TL, q.Ts⟩
  intro r hr
  rw [List.length_cons] at hE
  rcases List.mem_cons.mp hr with rfl | hr
  ·have := row_q q' hp hc x
   exact ⟨this.x.mono (by k_extra "om"), this.y.mono (by k_extra "om"), this.width.mono (by k_extra "om"), this.size.mono (by k_extra "om")⟩
  ·exact showR_q (M := M + 100) l q (place_q q' hp x) (by k_extra "om") hc (by k_extra "om") r hr
in #guard_msgs in open Nat
inductive Part where
  | str (l : List Int)
  | num (x : Rat)
inductive Op where
  | Tc (x : Rat) | Tw (x : Rat) | Tz (x : Rat) | TL (x : Rat) | Ts (x : Rat)
  | Tf (b : Bool) (x : Rat)
  | Td (x y : Rat) | TD (x y : Rat) | Tst | Tm (m : M6)
  | Tj (l : List Int) | TJ (l : List Part) | q1 (l : List Int) | q2 (x y : Rat) (l : List Int)
  | q | Q | cm (m : M6) | BT | ET
structure WS where
  st : TS
  pile : List TS
  row : M6
  place : M6
  text : Bool
  rows : List Row
noncomputable def WS.nextRow (s : WS) (x y : Rat) : WS := { s with row := (M6.shift x y).mul s.row, place := (M6.shift x y).mul s.row }
noncomputable def WS.feed (s : WS) : WS := s.nextRow 0 (-s.st.TL)
noncomputable def WS.show (s : WS) (l : List Int) : WS := { s with place := showP s.st s.place l, rows := s.rows ++ showR s.st s.place l }
noncomputable def adjOf (s : TS) (x : Rat) : Rat := -(x * s.size * s.Tz / 100000)
noncomputable def WS.part (s : WS) : Part → WS
  | .str l => s.show l
  | .num x => { s with place := (M6.shift (adjOf s.st x) 0).mul s.place }
noncomputable def WS.parts (s : WS) : List Part → WS
  | [] => s
  | p :: r => (s.part p).parts r
theorem WS.parts_snoc (p : Part) : ∀ (s : WS) (l : List Part), s.parts (l ++ [p]) = (s.parts l).part p
 | _, [] => rfl
 | s, x :: l => WS.parts_snoc p (s.part x) l
in #guard_msgs in open Nat
noncomputable def WS.op (s : WS) : Op → WS
  | .Tc x => { s with st := { s.st with Tc := x } }
  | .Tw x => { s with st := { s.st with Tw := x } }
  | .Tz x => { s with st := { s.st with Tz := x } }
  | .TL x => { s with st := { s.st with TL := x } }
  | .Ts x => { s with st := { s.st with Ts := x } }
  | .Tf b x => { s with st := { s.st with font := b, size := x, set := true } }
  | .Td x y => s.nextRow x y
  | .TD x y => { s with st := { s.st with TL := -y } }.nextRow x y
  | .Tst => s.feed
  | .Tm m => { s with row := m, place := m }
  | .Tj l => s.show l
  | .TJ l => s.parts l
  | .q1 l => s.feed.show l
  | .q2 x y l => ({ s with st := { s.st with Tw := x, Tc := y } }.feed).show l
  | .q => { s with pile := s.st :: s.pile }
  | .Q => match s.pile with
    | [] => s
    | t :: r => { s with st := t, pile := r }
  | .cm m => { s with st := { s.st with ctm := m.mul s.st.ctm } }
  | .BT => { s with text := true, row := .one, place := .one }
  | .ET => { s with text := false }
noncomputable def WS.run (s : WS) : List Op → WS
  | [] => s
  | o :: r => (s.op o).run r
theorem WS.run_app : ∀ (s : WS) (l r : List Op), s.run (l ++ r) = (s.run l).run r
 | _, [], _ => rfl
 | s, o :: l, r => WS.run_app (s.op o) l r
in #guard_msgs in open Nat
noncomputable def okL (l : List Int) : Prop := (∀ n ∈ l, okI n) ∧ l.length ≤ 2
noncomputable def Part.ok : Part → Prop
  | .str l => okL l
  | .num x => Dq 1 10 x
noncomputable def Op.ok (s : WS) : Op → Prop
  | .Tc x => Dq 1 10 x
  | .Tw x => Dq 1 10 x
  | .Tz x => Dq 1 10 x
  | .TL x => Dq 1 10 x
  | .Ts x => Dq 1 10 x
  | .Tf _ x => Dq 1 10 x
  | .Td x y => s.text = true ∧ Dq 1 10 x ∧ Dq 1 10 y
  | .TD x y => s.text = true ∧ Dq 1 10 x ∧ Dq 1 10 y
  | .Tst => s.text = true
  | .Tm m => s.text = true ∧ Mq 1 1 10 m
  | .Tj l => s.text = true ∧ s.st.set = true ∧ okL l
  | .TJ l => s.text = true ∧ s.st.set = true ∧ (∀ p ∈ l, p.ok) ∧ l.length ≤ 2
  | .q1 l => s.text = true ∧ s.st.set = true ∧ okL l
  | .q2 x y l => s.text = true ∧ s.st.set = true ∧ Dq 1 10 x ∧ Dq 1 10 y ∧ okL l
  | .q => True
  | .Q => s.pile ≠ []
  | .cm m => Mq 1 1 10 m
  | .BT => s.text = false
  | .ET => s.text = true
noncomputable def OkRun (s : WS) : List Op → Prop
  | [] => True
  | o :: r => o.ok s ∧ OkRun (s.op o) r
theorem OkRun.app : ∀ {s : WS} {l r : List Op}, OkRun s l → OkRun (s.run l) r → OkRun s (l ++ r)
 | _, [], _, _, h => h
 | s, o :: l, r, h, k => ⟨h.1, OkRun.app (s := s.op o) h.2 k⟩
in #guard_msgs in open Nat
structure WsQ (c N : Nat) (s : WS) : Prop where
  st : TsQ c N s.st
  pile : ∀ t ∈ s.pile, TsQ c N t
  row : Mq 1 10 N s.row
  place : Mq 1 10 N s.place
  rows : ∀ r ∈ s.rows, RowQ (2 * N + 1000) r
theorem TsQ.to {c N c' N' : Nat} {s : TS} (q : TsQ c N s) (hc : c ≤ c') (h : N + 4 * (c' - c) ≤ N') : TsQ c' N' s := ⟨q.ctm.to hc (by k_extra "om") h (by k_extra "om"), q.size, q.Tc, q.Tw, q.Tz, q.TL, q.Ts⟩ in
theorem RowQ.to {E E' : Nat} {r : Row} (q : RowQ E r) (h : E ≤ E') : RowQ E' r := ⟨q.x.mono h, q.y.mono h, q.width.mono h, q.size.mono h⟩
in #guard_msgs in open Nat
theorem Mq.big {p q N M : Nat} {m : M6} (h : Mq p q N m) (l : N ≤ M) : Mq p q M m := h.to (Nat.le_refl _) (Nat.le_refl _) (by k_extra "om") (by k_extra "om") in
theorem WsQ.to {c N c' N' : Nat} {s : WS} (q : WsQ c N s) (hc : c ≤ c') (h : N + 4 * (c' - c) ≤ N') : WsQ c' N' s :=
 ⟨q.st.to hc h, fun t ht => (q.pile t ht).to hc h, q.row.big (by k_extra "om"), q.place.big (by k_extra "om"), fun r hr => (q.rows r hr).to (by k_extra "om")⟩
in #guard_msgs in open Nat
theorem WsQ.next {c N : Nat} {s : WS} (q : WsQ c N s) {x y : Rat} (hx : Dq 1 10 x) (hy : Dq 1 10 y) : WsQ c (N + 100) (s.nextRow x y) := by
 have m : Mq 1 10 (N + 100) ((M6.shift x y).mul s.row) := (shift_q hx hy (by decide)).mul q.row rfl (by decide) (by decide) (by k_extra "om")
 exact ⟨q.st.to (Nat.le_refl _) (by k_extra "om"), fun t ht => (q.pile t ht).to (Nat.le_refl _) (by k_extra "om"), m, m, fun r hr => (q.rows r hr).to (by k_extra "om")⟩
in #guard_msgs in open Nat
theorem WsQ.feed {c N : Nat} {s : WS} (q : WsQ c N s) : WsQ c (N + 100) s.feed := q.next Dq.zero q.st.TL.neg in
theorem WsQ.show {c N : Nat} {s : WS} (q : WsQ c N s) {l : List Int} (hl : okL l) (hc : c ≤ 24) : WsQ c (N + 200) (s.show l) := by
 have ll := hl.2
 refine ⟨q.st.to (Nat.le_refl _) (by k_extra "om"), fun t ht => (q.pile t ht).to (Nat.le_refl _) (by k_extra "om"), q.row.big (by k_extra "om"), (showP_q l q.st q.place (Nat.le_refl _)).big (by k_extra "om"), fun r hr => ?_⟩
 rcases List.mem_append.mp hr with hr | hr
 ·exact (q.rows r hr).to (by k_extra "om")
 ·exact showR_q (E := 2 * (N + 200) + 1000) l q.st q.place (Nat.le_refl _) hc (by k_extra "om") r hr
in #guard_msgs in open Nat
theorem adj_q {c N : Nat} {s : TS} (q : TsQ c N s) {x : Rat} (hx : Dq 1 10 x) : Dq 8 30 (adjOf s x) := by
 have := (((hx.mul q.size).mul q.Tz).div 5).neg
 rw [show (10 : Rat) ^ 5 = 100000 from by rw [show (5 : Nat) = 2 + 3 from rfl, r_pw, hund, show (3 : Nat) = 0 + 1 + 1 + 1 from rfl, Rat.pow_succ, Rat.pow_succ, Rat.pow_succ, Rat.pow_zero]; grind] at this
 exact this
in #guard_msgs in open Nat
theorem WsQ.part {c N : Nat} {s : WS} (q : WsQ c N s) {p : Part} (hp : p.ok) (hc : c ≤ 24) : WsQ c (N + 200) (s.part p) := by
 cases p with
 | str l => exact q.show hp hc
 | num x =>
  have m : Mq 1 10 (N + 200) ((M6.shift (adjOf s.st x) 0).mul s.place) := (shift_q (adj_q q.st hp) Dq.zero (by decide)).mul q.place rfl (by decide) (by decide) (by k_extra "om")
  exact ⟨q.st.to (Nat.le_refl _) (by k_extra "om"), fun t ht => (q.pile t ht).to (Nat.le_refl _) (by k_extra "om"), q.row.big (by k_extra "om"), m, fun r hr => (q.rows r hr).to (by k_extra "om")⟩
in #guard_msgs in open Nat
theorem WsQ.parts : ∀ {c N : Nat} {s : WS} {l : List Part}, WsQ c N s → (∀ p ∈ l, p.ok) → c ≤ 24 → WsQ c (N + 200 * l.length) (s.parts l)
 | c, N, s, [], q, _, _ => q
 | c, N, s, p :: l, q, h, hc => by
  have := WsQ.parts (q.part (h p (.head _)) hc) (fun x hx => h x (.tail _ hx)) hc
  rw [List.length_cons]
  exact this.to (Nat.le_refl _) (by k_extra "om")
in #guard_msgs in open Nat
theorem WsQ.op {c N : Nat} {s : WS} (q : WsQ c N s) {o : Op} (ho : o.ok s) (hc : c ≤ 24) : WsQ (c + 1) (N + 600) (s.op o) := by
 have up : WsQ (c + 1) (N + 600) s := q.to (Nat.le_succ _) (by k_extra "om")
 have su := up.st
 cases o with
 | Tc x => exact ⟨⟨su.ctm, su.size, ho, su.Tw, su.Tz, su.TL, su.Ts⟩, up.pile, up.row, up.place, up.rows⟩
 | Tw x => exact ⟨⟨su.ctm, su.size, su.Tc, ho, su.Tz, su.TL, su.Ts⟩, up.pile, up.row, up.place, up.rows⟩
 | Tz x => exact ⟨⟨su.ctm, su.size, su.Tc, su.Tw, ho, su.TL, su.Ts⟩, up.pile, up.row, up.place, up.rows⟩
 | TL x => exact ⟨⟨su.ctm, su.size, su.Tc, su.Tw, su.Tz, ho, su.Ts⟩, up.pile, up.row, up.place, up.rows⟩
 | Ts x => exact ⟨⟨su.ctm, su.size, su.Tc, su.Tw, su.Tz, su.TL, ho⟩, up.pile, up.row, up.place, up.rows⟩
 | Tf b x => exact ⟨⟨su.ctm, ho, su.Tc, su.Tw, su.Tz, su.TL, su.Ts⟩, up.pile, up.row, up.place, up.rows⟩
 | Td x y => exact (q.next ho.2.1 ho.2.2).to (Nat.le_succ _) (by k_extra "om")
 | TD x y =>
  have s1 := q.st
  have q' : WsQ c N { s with st := { s.st with TL := -y } } := ⟨⟨s1.ctm, s1.size, s1.Tc, s1.Tw, s1.Tz, ho.2.2.neg, s1.Ts⟩, q.pile, q.row, q.place, q.rows⟩
  exact (q'.next ho.2.1 ho.2.2).to (Nat.le_succ _) (by k_extra "om")
 | Tst => exact q.feed.to (Nat.le_succ _) (by k_extra "om")
 | Tm m =>
  have h : Mq 1 10 (N + 600) m := ho.2.to (Nat.le_refl _) (by decide) (by k_extra "om") (by k_extra "om")
  exact ⟨up.st, up.pile, h, h, up.rows⟩
 | Tj l => exact (q.show ho.2.2 hc).to (Nat.le_succ _) (by k_extra "om")
 | TJ l =>
  have := q.parts ho.2.2.1 hc
  have ll := ho.2.2.2
  exact this.to (Nat.le_succ _) (by k_extra "om")
 | q1 l => exact (q.feed.show ho.2.2 hc).to (Nat.le_succ _) (by k_extra "om")
 | q2 x y l =>
  have s1 := q.st
  have q' : WsQ c N { s with st := { s.st with Tw := x, Tc := y } } := ⟨⟨s1.ctm, s1.size, ho.2.2.2.1, ho.2.2.1, s1.Tz, s1.TL, s1.Ts⟩, q.pile, q.row, q.place, q.rows⟩
  exact (q'.feed.show ho.2.2.2.2 hc).to (Nat.le_succ _) (by k_extra "om")
 | q => exact ⟨up.st, fun t ht => by
   rcases List.mem_cons.mp ht with rfl | ht
   ·exact up.st
   ·exact up.pile t ht, up.row, up.place, up.rows⟩
 | Q =>
  show WsQ (c + 1) (N + 600) (match s.pile with | [] => s | t :: r => { s with st := t, pile := r })
  cases e : s.pile with
  | nil => exact up
  | cons t r => exact ⟨up.pile t (by rw [e]; exact .head _), fun u hu => up.pile u (by rw [e]; exact .tail _ hu), up.row, up.place, up.rows⟩
 | cm m =>
  have h : Mq (c + 1) (c + 2) (N + 600) (m.mul s.st.ctm) := Mq.mul (h1 := Nat.add_comm 1 c) ho q.st.ctm (by k_extra "om") (by k_extra "om") (by k_extra "om")
  exact ⟨⟨h, su.size, su.Tc, su.Tw, su.Tz, su.TL, su.Ts⟩, up.pile, up.row, up.place, up.rows⟩
 | BT =>
  have h : Mq 1 10 (N + 600) M6.one := ⟨(Dq.int (m := 1) (e := 1) (by decide)).to (by decide) (by k_extra "om"), Dq.zero, Dq.zero, (Dq.int (m := 1) (e := 1) (by decide)).to (by decide) (by k_extra "om"), Dq.zero, Dq.zero⟩
  exact ⟨up.st, up.pile, h, h, up.rows⟩
 | ET => exact ⟨up.st, up.pile, up.row, up.place, up.rows⟩
in #guard_msgs in open Nat
inductive Al {α : Type} (R : Value → α → Prop) : List Value → List α → Prop
  | nil : Al R [] []
  | cons {v : Value} {x : α} {vs : List Value} {xs : List α} : R v x → Al R vs xs → Al R (v :: vs) (x :: xs)
theorem Al.mono {α : Type} {R R' : Value → α → Prop} (i : ∀ v x, R v x → R' v x) {vs : List Value} {xs : List α} (h : Al R vs xs) : Al R' vs xs := by
 induction h with
 | nil => exact .nil
 | cons h _ ih => exact .cons (i _ _ h) ih in
theorem Al.app {α : Type} {R : Value → α → Prop} {vs us : List Value} {xs ys : List α} (h : Al R vs xs) (k : Al R us ys) : Al R (vs ++ us) (xs ++ ys) := by
 induction h with
 | nil => exact k
 | cons h _ ih => exact .cons h ih
in #guard_msgs in open Nat
theorem Al.len {α : Type} {R : Value → α → Prop} {vs : List Value} {xs : List α} (h : Al R vs xs) : vs.length = xs.length := by
 induction h with
 | nil => rfl
 | cons _ _ ih => rw [List.length_cons, List.length_cons, ih] in
theorem Al.get {α : Type} {R : Value → α → Prop} {vs : List Value} {xs : List α} (h : Al R vs xs) : ∀ (i : Nat) (x : α), xs[i]? = some x → ∃ v, vs[i]? = some v ∧ R v x := by
 induction h with
 | nil => intro i x e; cases e
 | cons h _ ih =>
  intro i x e
  cases i with
  | zero => cases e; exact ⟨_, rfl, h⟩
  | succ i => exact ih i x e
in #guard_msgs in open Nat
structure LS where
  vm : Value
  tf : Tok
  S : Int
  tS : Tok
  C : Int
  tC : Tok
  D : Int
  tD : Tok
  Z : Int
  tZ : Tok
  L : Int
  tL : Tok
  R : Int
  tR : Tok
noncomputable abbrev LS.kvs (l : LS) (b : Bool) : List (Str × Value) := [("ctm", l.vm), ("font", .str (fname b) l.tf), ("size", .int l.S l.tS), ("Tc", .int l.C l.tC), ("Tw", .int l.D l.tD), ("Tz", .int l.Z l.tZ), ("TL", .int l.L l.tL), ("Ts", .int l.R l.tR)]
structure LsV (F : Fz) (l : LS) (s : TS) : Prop where
  ctm : LMat F l.vm s.ctm
  size : Sc l.S s.size
  Tc : Sc l.C s.Tc
  Tw : Sc l.D s.Tw
  Tz : Sc l.Z s.Tz
  TL : Sc l.L s.TL
  Ts : Sc l.R s.Ts
theorem LsV.mono {F F' : Fz} {l : LS} {s : TS} (le : Le F F') (h : LsV F l s) : LsV F' l s := ⟨h.ctm.mono le, h.size, h.Tc, h.Tw, h.Tz, h.TL, h.Ts⟩
in #guard_msgs in open Nat
noncomputable abbrev wkvs (sa pa : Addr) (vr vp : Value) : List (Str × Value) := [("state", .ref sa), ("pile", .ref pa), ("row", vr), ("place", vp)]
inductive RowV (F : Fz) (v : Value) (r : Row) : Prop
  | mk (T t X tx Y ty Wd tw Z tz) (e0 : v = .ref T) (e1 : F T = some (tup [.str r.text t, .int X tx, .int Y ty, .int Wd tw, .int Z tz])) (e2 : Sc X r.x ∧ Sc Y r.y ∧ Sc Wd r.width ∧ Sc Z r.size) : RowV F v r
theorem RowV.mono {F F' : Fz} {v : Value} {r : Row} (le : Le F F') (h : RowV F v r) : RowV F' v r := by
 obtain ⟨T, t, X, tx, Y, ty, Wd, tw, Z, tz, a, b, c⟩ := h
 exact ⟨T, t, X, tx, Y, ty, Wd, tw, Z, tz, a, le _ _ b, c⟩
in #guard_msgs in open Nat
noncomputable def codesOf (b : Array UInt8) : List Int := b.toList.map fun c => (c.toNat : Int)
theorem Oct.code {b : Array UInt8} (o : Oct b) {i : Nat} {c : UInt8} (e : b[i]? = some c) : okI (c.toNat : Int) := by
 rcases o.ok i c e with h | h | h | h <;> (rw [h]; unfold okI; decide) in
theorem codes_take {b : Array UInt8} {i : Nat} {c : UInt8} (e : b[i]? = some c) : (codesOf b).take (i + 1) = (codesOf b).take i ++ [(c.toNat : Int)] := by
 have : (codesOf b)[i]? = some (c.toNat : Int) := by unfold codesOf; rw [List.getElem?_map]; simp [e]
 rw [List.take_succ, this]; rfl
in #guard_msgs in open Nat
theorem codes_len (b : Array UInt8) : (codesOf b).length = b.size := by simp [codesOf] in
theorem thou : (10 : Rat) ^ 3 = 1000 := by rw [show (3 : Nat) = 0 + 1 + 1 + 1 from rfl, Rat.pow_succ, Rat.pow_succ, Rat.pow_succ, Rat.pow_zero]; grind in
theorem wd_sc (font : Bool) (c : Int) : Sc (gwide font c * 10 ^ 37) (wd font c) := by
 unfold Sc wd
 rw [Rat.intCast_mul, r_cast, ← thou, show (40 : Nat) = 3 + 37 from rfl, r_pw]
 have := r_ten 3
 grind
in #guard_msgs in open Nat
theorem showR_len (s : TS) : ∀ (pl : M6) (l : List Int), (showR s pl l).length = l.length
 | _, [] => rfl
 | _, x :: l => by show (showR s _ l).length + 1 = l.length + 1; rw [showR_len s _ l] in
theorem sc_across {c N : Nat} {s : TS} {X : Int} (q : TsQ c N s) (h : Sd2 X (s.size * s.Tz)) : Sc ((X.fdiv (10 ^ 40)).fdiv 100) (across s) := by
 have h1 := h.div ((q.size.mul q.Tz).to (q := 40) (by decide) (Nat.le_refl _))
 exact h1.div 2 (by unfold across; rw [hund]; grind) ((across_q q).to (q := 40) (by decide) (Nat.le_refl _))
in #guard_msgs in open Nat
theorem sc_way {c N : Nat} {s : TS} {k : Int} {X : Int} (q : TsQ c N s) (h : Sd2 X ((wd s.font k * s.size + s.Tc + (if k = 32 then s.Tw else 0)) * s.Tz)) : Sc ((X.fdiv (10 ^ 40)).fdiv 100) (way s k) := by
 have h1 := h.div (((step_q q k).mul q.Tz).to (q := 40) (by decide) (Nat.le_refl _))
 exact h1.div 2 (by unfold way; rw [hund]; grind) ((way_q q k).to (q := 40) (by decide) (Nat.le_refl _))
in #guard_msgs in open Nat
section
variable {A : Around} {h₀ h : Heap} {F₀ F : Fz} {W : List Addr} {mu : Mu} {tk : Nat}
inductive LsL (wa du sa : Addr) (b : Array UInt8) (tb : Tok) (ls : Fs) : Prop
  | mk (o1 o2 o3 o4 o5 o6 o7) (e : ls = ([("world", some (.ref wa)), ("octets", some (.bytes b tb)), ("due", some (.ref du)), ("state", some (.ref sa)), ("code", o1), ("text", o2), ("wide", o3), ("across", o4), ("inner", o5), ("onto", o6), ("way", o7)] : Fs)) : LsL wa du sa b tb ls
inductive JLs (wa du sa pa : Addr) (b : Array UInt8) (tb : Tok) (vr : Value) (l : LS) (fo : Bool) (ds : List Value) (P : M6) (R : List Row) (ls : Fs) (mu : Mu) (F' : Fz) : Prop
  | mk (a : LsL wa du sa b tb ls) (vp' : Value) (ds' : List Value) (em : mu = ([(wa, dic (strKind prog w) (wkvs sa pa vr vp')), (sa, dic (strKind prog w) (l.kvs fo)), (du, lst (ds ++ ds'))] : Mu)) (h1 : LMat F' vp' P) (h2 : Al (RowV F') ds' R) : JLs wa du sa pa b tb vr l fo ds P R ls mu F'
theorem c_lshow {wa sa pa du : Addr} {l : LS} {s : TS} {vr vp : Value} {pl : M6} {ds : List Value} {b : Array UInt8} {tb : Tok} {c N : Nat} {Q : Value → Shared → Prop} (hR : Room 12 A) (f : Fm h₀ F₀ W mu F h)
  (t : Tk [(wa, dic (strKind prog w) (wkvs sa pa vr vp)), (sa, dic (strKind prog w) (l.kvs s.font)), (du, lst ds)] [(wa, dic (strKind prog w) (wkvs sa pa vr vp)), (sa, dic (strKind prog w) (l.kvs s.font)), (du, lst ds)] mu mu)
  (hl : LsV F l s) (hp : LMat F vp pl) (ob : Oct b) (qs : TsQ c N s) (qp : Mq 1 10 N pl) (hc : c ≤ 24) (hN : N ≤ 100000) (hd : ds.length ≤ 900)
  (ret : ∀ vp' ds' F' h' tk', Ext F h [wa, sa, du] F' h' → Mus F' h' [(wa, dic (strKind prog w) (wkvs sa pa vr vp')), (sa, dic (strKind prog w) (l.kvs s.font)), (du, lst (ds ++ ds'))] → LMat F' vp' (showP s pl (codesOf b)) → Al (RowV F') ds' (showR s pl (codesOf b)) → Q .none ⟨h', g, d, tk', os⟩) :
  wpAny (model prog w) A (call (.ref 860) [.ref wa, .bytes b tb, .ref du]) Q E ⟨h, g, d, tk, os⟩ := by
 refine r_use (enter ["world", "octets", "due"] ["state", "code", "text", "wide", "across", "inner", "onto", "way"] [("_law_code", .ref 853), ("_law_unit", .ref 798), ("_law_product", .ref 825), ("_law_shift", .ref 832)] [("world", some (.ref wa)), ("octets", some (.bytes b tb)), ("due", some (.ref du)), ("state", none), ("code", none), ("text", none), ("wide", none), ("across", none), ("inner", none), ("onto", none), ("way", none)] hR f (f.take t) (by unfold K; k_is) (by unfold K; k_is) (BindsTo.of_eq rfl) rfl rfl (by decide) (by decide) (by decide) (Ga.all (.cons (gv__law_code) (.cons (gv__law_unit) (.cons (gv__law_product) (.cons (gv__law_shift) .nil))))) rfl rfl rfl (by decide) rfl ?_)
 intro env h1 tk1 ok f2 hR2
 k_extra "st"
 refine for_bytes (fun i => JLs wa du sa pa b tb vr l s.font ds (showP s pl ((codesOf b).take i)) (showR s pl ((codesOf b).take i)))
  (by k_extra "hd") (by assumption) ⟨⟨_, _, _, _, _, _, _, rfl⟩, vp, [], by rw [List.append_nil], hp, .nil⟩ ?_ ?_ (fun I v => rfl)
 ·rintro I i c' u ls' mu' F3 h3 tk3 hi hb ⟨⟨o1, o2, o3, o4, o5, o6, o7, rfl⟩, vp', ds', rfl, hp', hds⟩ l3 f3
  have oc := ob.code hb
  have et := codes_take hb
  have ql := showP_q ((codesOf b).take i) qs qp (Nat.le_refl _)
  have lt : ((codesOf b).take i).length ≤ 2 := by have := ob.sz; rw [List.length_take, codes_len]; k_extra "om"
  have q2 : TsQ c (N + 200) s := ⟨qs.ctm.to (Nat.le_refl _) (Nat.le_refl _) (by k_extra "om") (by k_extra "om"), qs.size, qs.Tc, qs.Tw, qs.Tz, qs.TL, qs.Ts⟩
  have ql : Mq 1 10 (N + 200) (showP s pl ((codesOf b).take i)) := ql.to (Nat.le_refl _) (Nat.le_refl _) (by k_extra "om") (by k_extra "om")
  rw [et]
  rw [showP_snoc, showR_snoc]
  generalize showP s pl ((codesOf b).take i) = pl' at *
  have hrl : (showR s pl ((codesOf b).take i)).length ≤ 2 := by rw [showR_len]; exact lt
  generalize showR s pl ((codesOf b).take i) = rows at *
  generalize ((c'.toNat : Nat) : Int) = n at *
  have hl3 := hl.mono l3
  k_extra "st"
  k_extra "callk"
  k_extra "st"
  k_extra "cCode"
  case hc => exact oc
  intro T t1 t2 F4 h4 tk4 e4 f4 l4
  k_extra "un"
  k_extra "st"
  k_extra "pow?"
  case h0 => decide
  case h1 => decide
  k_extra "mul"
  case hm => exact IntMulOk.of_left (Nat.le_trans (intBits_le_iff.mpr (gwide_le _ _)) (by decide))
  have sw0 := wd_sc s.font n
  rw [show ((10 : Int) ^ (37 : Int).toNat) = 10 ^ 37 from rfl]
  generalize hgw : gwide s.font n * 10 ^ 37 = wX at *
  k_extra "st"
  k_extra "mul"
  case hm => exact bits_small (Sc.bits hl.size qs.size (by decide)) (Sc.bits hl.Tz qs.Tz (by decide)) (by decide)
  k_extra "st"
  k_extra "callk"
  k_extra "cUnit"
  intro tu F5 h5 tk5 f5 l5
  k_extra "div"
  k_extra "st"
  k_extra "div"
  have sA := sc_across qs (hl.size.mul hl.Tz)
  generalize ((l.S * l.Z).fdiv (10 ^ 40)).fdiv 100 = aX at *
  k_extra "st"
  k_extra "mkl"
  intro r0 F6 h6 f6 l6 e6
  k_extra "st"
  k_extra "mkl"
  intro r1 F7 h7 f7 l7 e7
  k_extra "st"
  k_extra "callk"
  k_extra "cUnit"
  intro tu2 F8 h8 tk8 f8 l8
  k_extra "st"
  k_extra "mkl"
  intro r2 F9 h9 f9 l9 e9
  k_extra "st"
  k_extra "mkl"
  intro ri F10 h10 f10 l10 e10
  have hin : LMat F10 (.ref ri) (inner s) := by
   refine' ⟨_, LM.mk9 e10 ?ea ?eb ?ec, ?ed⟩
   case ea => k_extra "fz"
   case eb => k_extra "fz"
   case ec => k_extra "fz"
   exact ⟨sA, .zero, rfl, .zero, hl.size, rfl, .zero, hl.Ts, rfl⟩
  k_extra "st"
  k_extra "callk"
  k_extra "st"
  k_extra "callk"
  k_extra "st"
  k_extra "cProd"
  case a => exact inner_q qs
  case b => exact ql
  case h1 => decide
  case h2 => decide
  case h3 => decide
  case hn => k_extra "om"
  intro v1 F11 h11 tk11 hv1 f11 l11
  have hc11 := hl3.ctm
  k_extra "st"
  k_extra "cProd"
  case a => exact (inner_q qs).mul (P := 5) (Q := 10) (N := N + 300) ql rfl (by decide) (by decide) (by k_extra "om")
  case b => exact qs.ctm
  case h1 => k_extra "om"
  case h2 => k_extra "om"
  case h3 => k_extra "om"
  case hn => k_extra "om"
  intro v2 F12 h12 tk12 hv2 f12 l12
  have qo := onto_q q2 ql
  obtain ⟨XO, ⟨lo, ro0, ro1, ro2, to00, to01, to02, to10, to11, to12, to20, to21, to22, rfl, eo, eo0, eo1, eo2⟩, kO⟩ := hv2
  k_extra "st"
  k_extra "gmA"
  k_extra "cwB"
  k_extra "st"
  k_extra "mul"
  case hm => exact bits_small (Sc.bits sw0 (wd_q s.font n) (by decide)) (Sc.bits kO.1 qo.a (by k_extra "om")) (by k_extra "om")
  k_extra "st"
  k_extra "callk"
  k_extra "cUnit"
  intro tu3 F13 h13 tk13 f13 l13
  k_extra "div"
  have sW : Sc ((wX * XO 0 0).fdiv (10 ^ 40)) (wd s.font n * (ontoL s pl').a) := (sw0.mul kO.1).div (((wd_q s.font n).mul qo.a).to (q := 40) (by k_extra "om") (Nat.le_refl _))
  k_extra "st"
  k_extra "mkt"
  intro T' F14 h14 f14 l14 e14
  k_extra "st"
  k_extra "app"
  case hz => have := hds.len; have : rows.length ≤ 2 := hrl; rw [List.length_append]; k_extra "om"
  k_extra "st"
  k_extra "mul"
  case hm => exact bits_small (Sc.bits sw0 (wd_q s.font n) (by decide)) (Sc.bits hl.size qs.size (by decide)) (by decide)
  k_extra "st"
  k_extra "callk"
  k_extra "cUnit"
  intro tu4 F15 h15 tk15 f15 l15
  k_extra "div"
  have s1 : Sc ((wX * l.S).fdiv (10 ^ 40)) (wd s.font n * s.size) := (sw0.mul hl.size).div (((wd_q s.font n).mul qs.size).to (q := 40) (by decide) (Nat.le_refl _))
  k_extra "st"
  refine ite_b (fun c1 => ?_) (fun c1 => ?_)
  ·have e32 : n = 32 := by simpa using c1
   have sw : Sc ((wX * l.S).fdiv (10 ^ 40) + l.C + l.D) (wd s.font n * s.size + s.Tc + (if n = 32 then s.Tw else 0)) := by rw [if_pos e32]; exact (s1.add hl.Tc).add hl.Tw
   k_extra "st"
   k_extra "callk"
   k_extra "st"
   k_extra "callk"
   k_extra "st"
   k_extra "mul"
   case hm => exact bits_small (Sc.bits sw (step_q qs n) (by decide)) (Sc.bits hl.Tz qs.Tz (by decide)) (by decide)
   k_extra "st"
   k_extra "callk"
   k_extra "cUnit"
   intro tu8 F18 h18 tk18 f18 l18
   k_extra "div"
   k_extra "st"
   k_extra "div"
   have sy := sc_way qs (k := n) (sw.mul hl.Tz)
   k_extra "st"
   k_extra "cShift"
   case hx => exact sy
   case hy => exact .zero
   intro vs F19 h19 tk19 hvs f19 l19
   k_extra "st"
   k_extra "cProd"
   case a => exact shift_q (way_q qs n) Dq.zero (by decide)
   case b => exact ql
   case h1 => decide
   case h2 => decide
   case h3 => decide
   case hn => k_extra "om"
   intro vn F20 h20 tk20 hvn f20 l20
   k_extra "st"
   k_extra "setD"
   k_extra "st"
   rename Fm h F _ _ _ _ => fe
   refine ⟨_, _, F20, _, _, rfl, fe, by k_extra "le", ⟨_, _, _, _, _, _, _, rfl⟩, _, _, by rw [List.append_assoc], hvn, ?_⟩
   have lt' : Le F14 F20 := by k_extra "le"
   have lr : Le F3 F20 := by k_extra "le"
   refine (hds.mono (R' := RowV F20) fun v r => RowV.mono lr).app (.cons ⟨T', _, _, _, _, _, _, _, _, _, rfl, lt' _ _ e14, ?_, ?_, ?_, ?_⟩ .nil)
   ·exact kO.e
   ·exact kO.f
   ·exact sW
   ·exact kO.d
  ·have e32 : ¬ n = 32 := by simpa using c1
   have sw : Sc ((wX * l.S).fdiv (10 ^ 40) + l.C) (wd s.font n * s.size + s.Tc + (if n = 32 then s.Tw else 0)) := by rw [if_neg e32, Rat.add_zero]; exact s1.add hl.Tc
   k_extra "st"
   k_extra "callk"
   k_extra "st"
   k_extra "callk"
   k_extra "st"
   k_extra "mul"
   case hm => exact bits_small (Sc.bits sw (step_q qs n) (by decide)) (Sc.bits hl.Tz qs.Tz (by decide)) (by decide)
   k_extra "st"
   k_extra "callk"
   k_extra "cUnit"
   intro tu8 F18 h18 tk18 f18 l18
   k_extra "div"
   k_extra "st"
   k_extra "div"
   have sy := sc_way qs (k := n) (sw.mul hl.Tz)
   k_extra "st"
   k_extra "cShift"
   case hx => exact sy
   case hy => exact .zero
   intro vs F19 h19 tk19 hvs f19 l19
   k_extra "st"
   k_extra "cProd"
   case a => exact shift_q (way_q qs n) Dq.zero (by decide)
   case b => exact ql
   case h1 => decide
   case h2 => decide
   case h3 => decide
   case hn => k_extra "om"
   intro vn F20 h20 tk20 hvn f20 l20
   k_extra "st"
   k_extra "setD"
   k_extra "st"
   rename Fm h F _ _ _ _ => fe
   refine ⟨_, _, F20, _, _, rfl, fe, by k_extra "le", ⟨_, _, _, _, _, _, _, rfl⟩, _, _, by rw [List.append_assoc], hvn, ?_⟩
   have lt' : Le F14 F20 := by k_extra "le"
   have lr : Le F3 F20 := by k_extra "le"
   refine (hds.mono (R' := RowV F20) fun v r => RowV.mono lr).app (.cons ⟨T', _, _, _, _, _, _, _, _, _, rfl, lt' _ _ e14, ?_, ?_, ?_, ?_⟩ .nil)
   ·exact kO.e
   ·exact kO.f
   ·exact sW
   ·exact kO.d
 ·rintro ls' mu' F3 h3 tk3 ⟨⟨o1, o2, o3, o4, o5, o6, o7, rfl⟩, vp', ds', rfl, hp', hds⟩ l3 f3
  rw [show b.size = (codesOf b).length from (codes_len b).symm, List.take_length] at hp' hds
  k_extra "st"
  exact ret vp' ds' _ _ _ f3.leave.1 f3.leave.2 hp' hds
in #guard_msgs in open Nat
end
section
variable {A : Around} {h₀ h : Heap} {F₀ F : Fz} {W : List Addr} {mu : Mu} {tk : Nat}
theorem c_mk_Name {v0 : Value} {Q : Value → Shared → Prop} (hR : Room 6 A) (f : Fm h₀ F₀ W mu F h)
  (ret : ∀ a da F' h' tk', F' a = some (Raw (instObj 209 da)) → F' da = some (idc [("text", some v0)]) → Fm h₀ F₀ W mu F' h' → Le F F' → Q (.ref a) ⟨h', g, d, tk', os⟩) : wpAny (model prog w) A (call (.ref 209) [v0]) Q E ⟨h, g, d, tk, os⟩ := by
 refine r_use (make (n := 5) (ks := ["text"]) hR f (mk_Name) (by decide) fun a da F1 h1 A' x1 ha hd hn h0 hR' => ?_)
 refine enter ["self", "text"] [] [] [("self", some (.ref a)), ("text", some (v0))] hR' (f.call0 x1) (Mus.mk1 (c := idc [("text", none)]) hd hn) (by unfold K; k_is) (by unfold K; k_is) (BindsTo.of_eq rfl) rfl rfl (by decide) (by decide) (by decide) (Ga.all .nil) rfl rfl rfl (by decide) rfl ?_
 intro env h2 tk2 ok f2 hR2
 k_extra "st"
 k_extra "sat"
 k_extra "st"
 rename Fm h1 F1 _ _ _ _ => fe
 exact ret _ _ _ _ _ ((f.made x1 h0 fe).2.2.1 _ _ ha) (f.made x1 h0 fe).2.2.2 (f.made x1 h0 fe).1 (f.made x1 h0 fe).2.1
in #guard_msgs in open Nat
theorem c_mk_Operation {v0 v1 : Value} {Q : Value → Shared → Prop} (hR : Room 6 A) (f : Fm h₀ F₀ W mu F h)
  (ret : ∀ a da F' h' tk', F' a = some (Raw (instObj 407 da)) → F' da = some (idc [("word", some v0), ("operands", some v1)]) → Fm h₀ F₀ W mu F' h' → Le F F' → Q (.ref a) ⟨h', g, d, tk', os⟩) : wpAny (model prog w) A (call (.ref 407) [v0, v1]) Q E ⟨h, g, d, tk, os⟩ := by
 refine r_use (make (n := 5) (ks := ["word", "operands"]) hR f (mk_Operation) (by decide) fun a da F1 h1 A' x1 ha hd hn h0 hR' => ?_)
 refine enter ["self", "word", "operands"] [] [] [("self", some (.ref a)), ("word", some (v0)), ("operands", some (v1))] hR' (f.call0 x1) (Mus.mk1 (c := idc [("word", none), ("operands", none)]) hd hn) (by unfold K; k_is) (by unfold K; k_is) (BindsTo.of_eq rfl) rfl rfl (by decide) (by decide) (by decide) (Ga.all .nil) rfl rfl rfl (by decide) rfl ?_
 intro env h2 tk2 ok f2 hR2
 k_extra "st"
 k_extra "sat"
 k_extra "st"
 k_extra "sat"
 k_extra "st"
 rename Fm h1 F1 _ _ _ _ => fe
 exact ret _ _ _ _ _ ((f.made x1 h0 fe).2.2.1 _ _ ha) (f.made x1 h0 fe).2.2.2 (f.made x1 h0 fe).1 (f.made x1 h0 fe).2.1
in #guard_msgs in open Nat
theorem c_mk_Glyph {v0 v1 v2 v3 v4 : Value} {Q : Value → Shared → Prop} (hR : Room 6 A) (f : Fm h₀ F₀ W mu F h)
  (ret : ∀ a da F' h' tk', F' a = some (Raw (instObj 449 da)) → F' da = some (idc [("text", some v0), ("x", some v1), ("y", some v2), ("width", some v3), ("size", some v4)]) → Fm h₀ F₀ W mu F' h' → Le F F' → Q (.ref a) ⟨h', g, d, tk', os⟩) : wpAny (model prog w) A (call (.ref 449) [v0, v1, v2, v3, v4]) Q E ⟨h, g, d, tk, os⟩ := by
 refine r_use (make (n := 5) (ks := ["text", "x", "y", "width", "size"]) hR f (mk_Glyph) (by decide) fun a da F1 h1 A' x1 ha hd hn h0 hR' => ?_)
 refine enter ["self", "text", "x", "y", "width", "size"] [] [] [("self", some (.ref a)), ("text", some (v0)), ("x", some (v1)), ("y", some (v2)), ("width", some (v3)), ("size", some (v4))] hR' (f.call0 x1) (Mus.mk1 (c := idc [("text", none), ("x", none), ("y", none), ("width", none), ("size", none)]) hd hn) (by unfold K; k_is) (by unfold K; k_is) (BindsTo.of_eq rfl) rfl rfl (by decide) (by decide) (by decide) (Ga.all .nil) rfl rfl rfl (by decide) rfl ?_
 intro env h2 tk2 ok f2 hR2
 k_extra "st"
 k_extra "sat"
 k_extra "st"
 k_extra "sat"
 k_extra "st"
 k_extra "sat"
 k_extra "st"
 k_extra "sat"
 k_extra "st"
 k_extra "sat"
 k_extra "st"
 rename Fm h1 F1 _ _ _ _ => fe
 exact ret _ _ _ _ _ ((f.made x1 h0 fe).2.2.1 _ _ ha) (f.made x1 h0 fe).2.2.2 (f.made x1 h0 fe).1 (f.made x1 h0 fe).2.1
in #guard_msgs in open Nat
theorem c_mk_TextSheet {v0 v1 v2 v3 : Value} {Q : Value → Shared → Prop} (hR : Room 6 A) (f : Fm h₀ F₀ W mu F h)
  (ret : ∀ a da F' h' tk', F' a = some (Raw (instObj 470 da)) → F' da = some (idc [("operations", some v0), ("fonts", some v1), ("forms", some v2), ("own", some v3)]) → Fm h₀ F₀ W mu F' h' → Le F F' → Q (.ref a) ⟨h', g, d, tk', os⟩) : wpAny (model prog w) A (call (.ref 470) [v0, v1, v2, v3]) Q E ⟨h, g, d, tk, os⟩ := by
 refine r_use (make (n := 5) (ks := ["operations", "fonts", "forms", "own"]) hR f (mk_TextSheet) (by decide) fun a da F1 h1 A' x1 ha hd hn h0 hR' => ?_)
 refine enter ["self", "operations", "fonts", "forms", "own"] [] [] [("self", some (.ref a)), ("operations", some (v0)), ("fonts", some (v1)), ("forms", some (v2)), ("own", some (v3))] hR' (f.call0 x1) (Mus.mk1 (c := idc [("operations", none), ("fonts", none), ("forms", none), ("own", none)]) hd hn) (by unfold K; k_is) (by unfold K; k_is) (BindsTo.of_eq rfl) rfl rfl (by decide) (by decide) (by decide) (Ga.all .nil) rfl rfl rfl (by decide) rfl ?_
 intro env h2 tk2 ok f2 hR2
 k_extra "st"
 k_extra "sat"
 k_extra "st"
 k_extra "sat"
 k_extra "st"
 k_extra "sat"
 k_extra "st"
 k_extra "sat"
 k_extra "st"
 rename Fm h1 F1 _ _ _ _ => fe
 exact ret _ _ _ _ _ ((f.made x1 h0 fe).2.2.1 _ _ ha) (f.made x1 h0 fe).2.2.2 (f.made x1 h0 fe).1 (f.made x1 h0 fe).2.1
in #guard_msgs in open Nat
theorem c_mk_CMap {v0 v1 : Value} {Q : Value → Shared → Prop} (hR : Room 6 A) (f : Fm h₀ F₀ W mu F h)
  (ret : ∀ a da F' h' tk', F' a = some (Raw (instObj 650 da)) → F' da = some (idc [("spaces", some v0), ("chars", some v1)]) → Fm h₀ F₀ W mu F' h' → Le F F' → Q (.ref a) ⟨h', g, d, tk', os⟩) : wpAny (model prog w) A (call (.ref 650) [v0, v1]) Q E ⟨h, g, d, tk, os⟩ := by
 refine r_use (make (n := 5) (ks := ["spaces", "chars"]) hR f (mk_CMap) (by decide) fun a da F1 h1 A' x1 ha hd hn h0 hR' => ?_)
 refine enter ["self", "spaces", "chars"] [] [] [("self", some (.ref a)), ("spaces", some (v0)), ("chars", some (v1))] hR' (f.call0 x1) (Mus.mk1 (c := idc [("spaces", none), ("chars", none)]) hd hn) (by unfold K; k_is) (by unfold K; k_is) (BindsTo.of_eq rfl) rfl rfl (by decide) (by decide) (by decide) (Ga.all .nil) rfl rfl rfl (by decide) rfl ?_
 intro env h2 tk2 ok f2 hR2
 k_extra "st"
 k_extra "sat"
 k_extra "st"
 k_extra "sat"
 k_extra "st"
 rename Fm h1 F1 _ _ _ _ => fe
 exact ret _ _ _ _ _ ((f.made x1 h0 fe).2.2.1 _ _ ha) (f.made x1 h0 fe).2.2.2 (f.made x1 h0 fe).1 (f.made x1 h0 fe).2.1
in #guard_msgs in open Nat
theorem c_mk_Font {v0 v1 v2 v3 v4 v5 v6 : Value} {Q : Value → Shared → Prop} (hR : Room 6 A) (f : Fm h₀ F₀ W mu F h)
  (ret : ∀ a da F' h' tk', F' a = some (Raw (instObj 787 da)) → F' da = some (idc [("names", some v0), ("cutting", some v1), ("unicode", some v2), ("rows", some v3), ("default", some v4), ("unit", some v5), ("standard", some v6)]) → Fm h₀ F₀ W mu F' h' → Le F F' → Q (.ref a) ⟨h', g, d, tk', os⟩) : wpAny (model prog w) A (call (.ref 787) [v0, v1, v2, v3, v4, v5, v6]) Q E ⟨h, g, d, tk, os⟩ := by
 refine r_use (make (n := 5) (ks := ["names", "cutting", "unicode", "rows", "default", "unit", "standard"]) hR f (mk_Font) (by decide) fun a da F1 h1 A' x1 ha hd hn h0 hR' => ?_)
 refine enter ["self", "names", "cutting", "unicode", "rows", "default", "unit", "standard"] [] [] [("self", some (.ref a)), ("names", some (v0)), ("cutting", some (v1)), ("unicode", some (v2)), ("rows", some (v3)), ("default", some (v4)), ("unit", some (v5)), ("standard", some (v6))] hR' (f.call0 x1) (Mus.mk1 (c := idc [("names", none), ("cutting", none), ("unicode", none), ("rows", none), ("default", none), ("unit", none), ("standard", none)]) hd hn) (by unfold K; k_is) (by unfold K; k_is) (BindsTo.of_eq rfl) rfl rfl (by decide) (by decide) (by decide) (Ga.all .nil) rfl rfl rfl (by decide) rfl ?_
 intro env h2 tk2 ok f2 hR2
 k_extra "st"
 k_extra "sat"
 k_extra "st"
 k_extra "sat"
 k_extra "st"
 k_extra "sat"
 k_extra "st"
 k_extra "sat"
 k_extra "st"
 k_extra "sat"
 k_extra "st"
 k_extra "sat"
 k_extra "st"
 k_extra "sat"
 k_extra "st"
 rename Fm h1 F1 _ _ _ _ => fe
 exact ret _ _ _ _ _ ((f.made x1 h0 fe).2.2.1 _ _ ha) (f.made x1 h0 fe).2.2.2 (f.made x1 h0 fe).1 (f.made x1 h0 fe).2.1
in #guard_msgs in open Nat
theorem c_mk_String {v0 : Value} {Q : Value → Shared → Prop} (hR : Room 6 A) (f : Fm h₀ F₀ W mu F h)
  (ret : ∀ a da F' h' tk', F' a = some (Raw (instObj 231 da)) → F' da = some (idc [("octets", some v0), ("is_hex", some (.bool false))]) → Fm h₀ F₀ W mu F' h' → Le F F' → Q (.ref a) ⟨h', g, d, tk', os⟩) : wpAny (model prog w) A (call (.ref 231) [v0]) Q E ⟨h, g, d, tk, os⟩ := by
 refine r_use (make (n := 5) (ks := ["octets", "is_hex"]) hR f (mk_String) (by decide) fun a da F1 h1 A' x1 ha hd hn h0 hR' => ?_)
 refine enterV (vals := [.ref a, v0, .bool false]) ["self", "octets", "is_hex"] [] [] [("self", some (.ref a)), ("octets", some (v0)), ("is_hex", some (.bool false))] hR' (f.call0 x1) (Mus.mk1 (c := idc [("octets", none), ("is_hex", none)]) hd hn) (by unfold K; k_is) (by unfold K; k_is) (binds_K (f.call0 x1).kin rfl (by unfold K; k_is) rfl rfl rfl) rfl rfl (by decide) (by decide) (by decide) (Ga.all .nil) rfl rfl rfl (by decide) rfl ?_
 intro env h2 tk2 ok f2 hR2
 k_extra "st"
 k_extra "sat"
 k_extra "st"
 k_extra "sat"
 k_extra "st"
 rename Fm h1 F1 _ _ _ _ => fe
 exact ret _ _ _ _ _ ((f.made x1 h0 fe).2.2.1 _ _ ha) (f.made x1 h0 fe).2.2.2 (f.made x1 h0 fe).1 (f.made x1 h0 fe).2.1
in #guard_msgs in open Nat
end
inductive MatV (F : Fz) (v : Value) (M : M6) : Prop
  | mk (o da aa ab ac ad ae af) (e0 : v = .ref o) (e1 : F o = some (Raw (instObj 360 da))) (e2 : F da = some (idc [("a", some (.ref aa)), ("b", some (.ref ab)), ("c", some (.ref ac)), ("d", some (.ref ad)), ("e", some (.ref ae)), ("f", some (.ref af))])) (e3 : DecV F (.ref aa) M.a) (e4 : DecV F (.ref ab) M.b) (e5 : DecV F (.ref ac) M.c) (e6 : DecV F (.ref ad) M.d) (e7 : DecV F (.ref ae) M.e) (e8 : DecV F (.ref af) M.f) : MatV F v M
theorem MatV.mono {F F' : Fz} {v : Value} {M : M6} (l : Le F F') (h : MatV F v M) : MatV F' v M := by
 obtain ⟨o, da, aa, ab, ac, ad, ae, af, e, h1, h2, ha, hb, hc, hd, he, hf⟩ := h
 exact ⟨o, da, aa, ab, ac, ad, ae, af, e, l _ _ h1, l _ _ h2, ha.mono l, hb.mono l, hc.mono l, hd.mono l, he.mono l, hf.mono l⟩
in #guard_msgs in open Nat
section
variable {A : Around} {h₀ h : Heap} {F₀ F : Fz} {W : List Addr} {mu : Mu} {tk : Nat}
theorem gm_dec {a fM : Addr} {z : Rat} {x : Str} {pl : Sem Bool} {Q : Value × List Value → Shared → Prop} (f : Fm h₀ F₀ W mu F h) (k : DecV F (.ref a) z) (ok : MthOk 167 x fM) (hn : (["top", "places"] : List Str).contains x = false)
  (q : Q (.ref fM, [.ref a]) ⟨h, g, d, tk, os⟩) : wpAny (model prog w) A (getMethod (.ref a) x pl) Q E ⟨h, g, d, tk, os⟩ := by
 obtain ⟨a', m, p, e, ⟨da, t, u, h1, h2⟩, _⟩ := k
 cases e
 exact gm_inst f h1 (.inr h2) ok hn q
in #guard_msgs in open Nat
theorem gm_mat {a fM : Addr} {M : M6} {x : Str} {pl : Sem Bool} {Q : Value × List Value → Shared → Prop} (f : Fm h₀ F₀ W mu F h) (k : MatV F (.ref a) M) (ok : MthOk 360 x fM) (hn : (["a", "b", "c", "d", "e", "f"] : List Str).contains x = false)
  (q : Q (.ref fM, [.ref a]) ⟨h, g, d, tk, os⟩) : wpAny (model prog w) A (getMethod (.ref a) x pl) Q E ⟨h, g, d, tk, os⟩ := by
 obtain ⟨o, da, aa, ab, ac, ad, ae, af, e, h1, h2, _⟩ := k
 cases e
 exact gm_inst f h1 (.inr h2) ok hn q
in #guard_msgs in open Nat
end
theorem DecV.ref {F : Fz} {v : Value} {x : Rat} (h : DecV F v x) : ∃ b, v = .ref b := by
 obtain ⟨b, _, _, e, _, _⟩ := h
 exact ⟨b, e⟩ in
theorem Dq.up40 {p e : Nat} {x : Rat} (h : Dq p e x) (hp : p ≤ 40) : Dq 40 (e + 160) x := h.to hp (by k_extra "om")
in #guard_msgs in open Nat
section
variable {A : Around} {h₀ h : Heap} {F₀ F : Fz} {W : List Addr} {mu : Mu} {tk : Nat}
theorem c_mk_Mat {v0 v1 v2 v3 v4 v5 : Value} {M : M6} {Q : Value → Shared → Prop} (hR : Room 12 A) (f : Fm h₀ F₀ W mu F h) (n0 : NumV F v0 M.a) (n1 : NumV F v1 M.b) (n2 : NumV F v2 M.c) (n3 : NumV F v3 M.d) (n4 : NumV F v4 M.e) (n5 : NumV F v5 M.f)
  (ret : ∀ v F' h' tk', MatV F' v M → Fm h₀ F₀ W mu F' h' → Le F F' → Q v ⟨h', g, d, tk', os⟩) : wpAny (model prog w) A (call (.ref 360) [v0, v1, v2, v3, v4, v5]) Q E ⟨h, g, d, tk, os⟩ := by
 refine r_use (make (n := 11) (ks := ["a", "b", "c", "d", "e", "f"]) hR f (mk_Matrix) (by decide) fun a da F0 h1 A' x1 ha hd hn h0 hR' => ?_)
 have l0 := x1.le
 refine enter ["self", "a", "b", "c", "d", "e", "f"] [] [("decimal_of", .ref 185)] [("self", some (.ref a)), ("a", some (v0)), ("b", some (v1)), ("c", some (v2)), ("d", some (v3)), ("e", some (v4)), ("f", some (v5))] hR' (f.call0 x1) (Mus.mk1 (c := idc [("a", none), ("b", none), ("c", none), ("d", none), ("e", none), ("f", none)]) hd hn) (by unfold K; k_is) (by unfold K; k_is) (BindsTo.of_eq rfl) rfl rfl (by decide) (by decide) (by decide) (Ga.all (.cons (gv_decimal_of) .nil)) rfl rfl rfl (by decide) rfl ?_
 intro env h2 tk2 ok f2 hR2
 k_extra "st"
 k_extra "callk"
 k_extra "st"
 k_extra "cDecof"
 intro v11 F11 h11 tk11 hv11 f11 l11
 obtain ⟨b11, rfl⟩ := hv11.ref
 k_extra "st"
 k_extra "sat"
 k_extra "st"
 k_extra "callk"
 k_extra "st"
 k_extra "cDecof"
 intro v12 F12 h12 tk12 hv12 f12 l12
 obtain ⟨b12, rfl⟩ := hv12.ref
 k_extra "st"
 k_extra "sat"
 k_extra "st"
 k_extra "callk"
 k_extra "st"
 k_extra "cDecof"
 intro v13 F13 h13 tk13 hv13 f13 l13
 obtain ⟨b13, rfl⟩ := hv13.ref
 k_extra "st"
 k_extra "sat"
 k_extra "st"
 k_extra "callk"
 k_extra "st"
 k_extra "cDecof"
 intro v14 F14 h14 tk14 hv14 f14 l14
 obtain ⟨b14, rfl⟩ := hv14.ref
 k_extra "st"
 k_extra "sat"
 k_extra "st"
 k_extra "callk"
 k_extra "st"
 k_extra "cDecof"
 intro v15 F15 h15 tk15 hv15 f15 l15
 obtain ⟨b15, rfl⟩ := hv15.ref
 k_extra "st"
 k_extra "sat"
 k_extra "st"
 k_extra "callk"
 k_extra "st"
 k_extra "cDecof"
 intro v16 F16 h16 tk16 hv16 f16 l16
 obtain ⟨b16, rfl⟩ := hv16.ref
 k_extra "st"
 k_extra "sat"
 k_extra "st"
 rename Fm h1 F0 _ _ _ _ => fe
 have lx : Le F16 (F16.set da (idc [("a", some (.ref b11)), ("b", some (.ref b12)), ("c", some (.ref b13)), ("d", some (.ref b14)), ("e", some (.ref b15)), ("f", some (.ref b16))])) := Fz.le_set (fe.mus.has (da, _) (.tail _ (.head _))).2
 have m5 := l16.trans lx
 have m4 := l15.trans m5
 have m3 := l14.trans m4
 have m2 := l13.trans m3
 have m1 := l12.trans m2
 exact ret _ _ _ _ ⟨a, da, b11, b12, b13, b14, b15, b16, rfl, (f.made x1 h0 fe).2.2.1 _ _ ha, (f.made x1 h0 fe).2.2.2, hv11.mono m1, hv12.mono m2, hv13.mono m3, hv14.mono m4, hv15.mono m5, hv16.mono lx⟩ (f.made x1 h0 fe).1 (f.made x1 h0 fe).2.1
in #guard_msgs in open Nat
end
section
variable {A : Around} {h₀ h : Heap} {F₀ F : Fz} {W : List Addr} {mu : Mu} {tk : Nat}
theorem c_shifted {vm vx vy : Value} {M : M6} {x y : Rat} {p q n r e : Nat} {Q : Value → Shared → Prop} (hR : Room 18 A) (f : Fm h₀ F₀ W mu F h) (km : MatV F vm M) (kx : NumV F vx x) (ky : NumV F vy y) (qm : Mq p q n M) (qx : Dq r e x) (qy : Dq r e y) (hp : p + r ≤ 40) (hn : n + e ≤ 400000)
  (ret : ∀ T b1 b2 F' h' tk', F' T = some (tup [.ref b1, .ref b2]) → DecV F' (.ref b1) (M.a * x + M.c * y) → DecV F' (.ref b2) (M.b * x + M.d * y) → Fm h₀ F₀ W mu F' h' → Le F F' → Q (.ref T) ⟨h', g, d, tk', os⟩) : wpAny (model prog w) A (call (.ref 345) [vm, vx, vy]) Q E ⟨h, g, d, tk, os⟩ := by
 have t : Tk [] [] mu mu := .nil
 obtain ⟨om, dm, aam, abm, acm, adm, aem, afm, rfl, hmo, hmd, hma, hmb, hmc, hmdd, hme, hmf⟩ := id km
 refine r_use (enter ["self", "x", "y"] ["right", "up"] [] [("self", some (.ref om)), ("x", some (vx)), ("y", some (vy)), ("right", none), ("up", none)] hR f (f.take t) (by unfold K; k_is) (by unfold K; k_is) (BindsTo.of_eq rfl) rfl rfl (by decide) (by decide) (by decide) (Ga.all .nil) rfl rfl rfl (by decide) rfl ?_)
 intro env h2 tk2 ok f2 hR2
 k_extra "se"
 k_extra "cTimes"
 case d1 => exact qm.a
 case d2 => exact qx
 case hq => k_extra "om"
 intro v17 F17 h17 tk17 hv17 f17 l17
 obtain ⟨b17, rfl⟩ := hv17.ref
 k_extra "se"
 k_extra "cTimes"
 case d1 => exact qm.c
 case d2 => exact qy
 case hq => k_extra "om"
 intro v18 F18 h18 tk18 hv18 f18 l18
 obtain ⟨b18, rfl⟩ := hv18.ref
 k_extra "se"
 k_extra "cPlus"
 case d1 => exact (qm.a.mul qx).up40 hp
 case d2 => exact (qm.c.mul qy).up40 hp
 case hp => exact Nat.le_refl _
 case hq => k_extra "om"
 intro v19 F19 h19 tk19 hv19 f19 l19
 obtain ⟨b19, rfl⟩ := hv19.ref
 k_extra "se"
 k_extra "cTimes"
 case d1 => exact qm.b
 case d2 => exact qx
 case hq => k_extra "om"
 intro v20 F20 h20 tk20 hv20 f20 l20
 obtain ⟨b20, rfl⟩ := hv20.ref
 k_extra "se"
 k_extra "cTimes"
 case d1 => exact qm.d
 case d2 => exact qy
 case hq => k_extra "om"
 intro v21 F21 h21 tk21 hv21 f21 l21
 obtain ⟨b21, rfl⟩ := hv21.ref
 k_extra "se"
 k_extra "cPlus"
 case d1 => exact (qm.b.mul qx).up40 hp
 case d2 => exact (qm.d.mul qy).up40 hp
 case hp => exact Nat.le_refl _
 case hq => k_extra "om"
 intro v22 F22 h22 tk22 hv22 f22 l22
 obtain ⟨b22, rfl⟩ := hv22.ref
 k_extra "st"
 k_extra "mkt"
 intro T F99 h99 f99 l99 e99
 k_extra "st"
 have dd : DecV F99 (.ref b19) (M.a * x + M.c * y) := by k_extra "DecV"
 exact ret T _ _ F99 _ _ e99 dd (hv22.mono l99) (f.back t f99).1 (f.back t f99).2
in #guard_msgs in open Nat
theorem c_applied {vm vx vy : Value} {M : M6} {x y : Rat} {p q n r e : Nat} {Q : Value → Shared → Prop} (hR : Room 18 A) (f : Fm h₀ F₀ W mu F h) (km : MatV F vm M) (kx : NumV F vx x) (ky : NumV F vy y) (qm : Mq p q n M) (qx : Dq r e x) (qy : Dq r e y) (hp : p + r ≤ 40) (hq : q ≤ 40) (hn : n + e ≤ 400000)
  (ret : ∀ T b1 b2 F' h' tk', F' T = some (tup [.ref b1, .ref b2]) → DecV F' (.ref b1) (M.a * x + M.c * y + M.e) → DecV F' (.ref b2) (M.b * x + M.d * y + M.f) → Fm h₀ F₀ W mu F' h' → Le F F' → Q (.ref T) ⟨h', g, d, tk', os⟩) : wpAny (model prog w) A (call (.ref 338) [vm, vx, vy]) Q E ⟨h, g, d, tk, os⟩ := by
 have t : Tk [] [] mu mu := .nil
 obtain ⟨om, dm, aam, abm, acm, adm, aem, afm, rfl, hmo, hmd, hma, hmb, hmc, hmdd, hme, hmf⟩ := id km
 refine r_use (enter ["self", "x", "y"] ["right", "up"] [] [("self", some (.ref om)), ("x", some (vx)), ("y", some (vy)), ("right", none), ("up", none)] hR f (f.take t) (by unfold K; k_is) (by unfold K; k_is) (BindsTo.of_eq rfl) rfl rfl (by decide) (by decide) (by decide) (Ga.all .nil) rfl rfl rfl (by decide) rfl ?_)
 intro env h2 tk2 ok f2 hR2
 k_extra "se"
 k_extra "cTimes"
 case d1 => exact qm.a
 case d2 => exact qx
 case hq => k_extra "om"
 intro v23 F23 h23 tk23 hv23 f23 l23
 obtain ⟨b23, rfl⟩ := hv23.ref
 k_extra "se"
 k_extra "cTimes"
 case d1 => exact qm.c
 case d2 => exact qy
 case hq => k_extra "om"
 intro v24 F24 h24 tk24 hv24 f24 l24
 obtain ⟨b24, rfl⟩ := hv24.ref
 k_extra "se"
 k_extra "cPlus"
 case d1 => exact (qm.a.mul qx).up40 hp
 case d2 => exact (qm.c.mul qy).up40 hp
 case hp => exact Nat.le_refl _
 case hq => k_extra "om"
 intro v25 F25 h25 tk25 hv25 f25 l25
 obtain ⟨b25, rfl⟩ := hv25.ref
 k_extra "se"
 k_extra "cPlus"
 case d1 => exact (((qm.a.mul qx).up40 hp).add ((qm.c.mul qy).up40 hp))
 case d2 => exact qm.e.up40 hq
 case hp => exact Nat.le_refl _
 case hq => k_extra "om"
 intro v26 F26 h26 tk26 hv26 f26 l26
 obtain ⟨b26, rfl⟩ := hv26.ref
 k_extra "se"
 k_extra "cTimes"
 case d1 => exact qm.b
 case d2 => exact qx
 case hq => k_extra "om"
 intro v27 F27 h27 tk27 hv27 f27 l27
 obtain ⟨b27, rfl⟩ := hv27.ref
 k_extra "se"
 k_extra "cTimes"
 case d1 => exact qm.d
 case d2 => exact qy
 case hq => k_extra "om"
 intro v28 F28 h28 tk28 hv28 f28 l28
 obtain ⟨b28, rfl⟩ := hv28.ref
 k_extra "se"
 k_extra "cPlus"
 case d1 => exact (qm.b.mul qx).up40 hp
 case d2 => exact (qm.d.mul qy).up40 hp
 case hp => exact Nat.le_refl _
 case hq => k_extra "om"
 intro v29 F29 h29 tk29 hv29 f29 l29
 obtain ⟨b29, rfl⟩ := hv29.ref
 k_extra "se"
 k_extra "cPlus"
 case d1 => exact (((qm.b.mul qx).up40 hp).add ((qm.d.mul qy).up40 hp))
 case d2 => exact qm.f.up40 hq
 case hp => exact Nat.le_refl _
 case hq => k_extra "om"
 intro v30 F30 h30 tk30 hv30 f30 l30
 obtain ⟨b30, rfl⟩ := hv30.ref
 k_extra "st"
 k_extra "mkt"
 intro T F99 h99 f99 l99 e99
 k_extra "st"
 have dd : DecV F99 (.ref b26) (M.a * x + M.c * y + M.e) := by k_extra "DecV"
 exact ret T _ _ F99 _ _ e99 dd (hv30.mono l99) (f.back t f99).1 (f.back t f99).2
in #guard_msgs in open Nat
end
section
variable {A : Around} {h₀ h : Heap} {F₀ F : Fz} {W : List Addr} {mu : Mu} {tk : Nat}
theorem c_mtimes {vm vn : Value} {M N : M6} {p q n p' q' n' : Nat} {Q : Value → Shared → Prop} (hR : Room 24 A) (f : Fm h₀ F₀ W mu F h) (km : MatV F vm M) (kn : MatV F vn N) (qm : Mq p q n M) (qn : Mq p' q' n' N) (hp : p + p' ≤ 40) (hq1 : p' + q ≤ 40) (hq2 : q' ≤ 40) (hn : n + n' ≤ 400000)
  (ret : ∀ v F' h' tk', MatV F' v (M.mul N) → Fm h₀ F₀ W mu F' h' → Le F F' → Q v ⟨h', g, d, tk', os⟩) : wpAny (model prog w) A (call (.ref 331) [vm, vn]) Q E ⟨h, g, d, tk, os⟩ := by
 have t : Tk [] [] mu mu := .nil
 obtain ⟨om, dm, aam, abm, acm, adm, aem, afm, rfl, hmo, hmd, hma, hmb, hmc, hmdd, hme, hmf⟩ := id km
 obtain ⟨on, dn, aan, abn, acn, adn, aen, afn, rfl, hno, hnd, hna, hnb, hnc, hndd, hne, hnf⟩ := id kn
 refine r_use (enter ["self", "other"] ["a", "b", "c", "d", "e", "f"] [("Matrix", .ref 360)] [("self", some (.ref om)), ("other", some (.ref on)), ("a", none), ("b", none), ("c", none), ("d", none), ("e", none), ("f", none)] hR f (f.take t) (by unfold K; k_is) (by unfold K; k_is) (BindsTo.of_eq rfl) rfl rfl (by decide) (by decide) (by decide) (Ga.all (.cons (gv_Matrix) .nil)) rfl rfl rfl (by decide) rfl ?_)
 intro env h2 tk2 ok f2 hR2
 k_extra "se"
 k_extra "cTimes"
 case d1 => exact qm.a
 case d2 => exact qn.a
 case hq => k_extra "om"
 intro v31 F31 h31 tk31 hv31 f31 l31
 obtain ⟨b31, rfl⟩ := hv31.ref
 k_extra "se"
 k_extra "cTimes"
 case d1 => exact qm.b
 case d2 => exact qn.c
 case hq => k_extra "om"
 intro v32 F32 h32 tk32 hv32 f32 l32
 obtain ⟨b32, rfl⟩ := hv32.ref
 k_extra "se"
 k_extra "cPlus"
 case d1 => exact (qm.a.mul qn.a).up40 hp
 case d2 => exact (qm.b.mul qn.c).up40 hp
 case hp => exact Nat.le_refl _
 case hq => k_extra "om"
 intro v33 F33 h33 tk33 hv33 f33 l33
 obtain ⟨b33, rfl⟩ := hv33.ref
 k_extra "se"
 k_extra "cTimes"
 case d1 => exact qm.a
 case d2 => exact qn.b
 case hq => k_extra "om"
 intro v34 F34 h34 tk34 hv34 f34 l34
 obtain ⟨b34, rfl⟩ := hv34.ref
 k_extra "se"
 k_extra "cTimes"
 case d1 => exact qm.b
 case d2 => exact qn.d
 case hq => k_extra "om"
 intro v35 F35 h35 tk35 hv35 f35 l35
 obtain ⟨b35, rfl⟩ := hv35.ref
 k_extra "se"
 k_extra "cPlus"
 case d1 => exact (qm.a.mul qn.b).up40 hp
 case d2 => exact (qm.b.mul qn.d).up40 hp
 case hp => exact Nat.le_refl _
 case hq => k_extra "om"
 intro v36 F36 h36 tk36 hv36 f36 l36
 obtain ⟨b36, rfl⟩ := hv36.ref
 k_extra "se"
 k_extra "cTimes"
 case d1 => exact qm.c
 case d2 => exact qn.a
 case hq => k_extra "om"
 intro v37 F37 h37 tk37 hv37 f37 l37
 obtain ⟨b37, rfl⟩ := hv37.ref
 k_extra "se"
 k_extra "cTimes"
 case d1 => exact qm.d
 case d2 => exact qn.c
 case hq => k_extra "om"
 intro v38 F38 h38 tk38 hv38 f38 l38
 obtain ⟨b38, rfl⟩ := hv38.ref
 k_extra "se"
 k_extra "cPlus"
 case d1 => exact (qm.c.mul qn.a).up40 hp
 case d2 => exact (qm.d.mul qn.c).up40 hp
 case hp => exact Nat.le_refl _
 case hq => k_extra "om"
 intro v39 F39 h39 tk39 hv39 f39 l39
 obtain ⟨b39, rfl⟩ := hv39.ref
 k_extra "se"
 k_extra "cTimes"
 case d1 => exact qm.c
 case d2 => exact qn.b
 case hq => k_extra "om"
 intro v40 F40 h40 tk40 hv40 f40 l40
 obtain ⟨b40, rfl⟩ := hv40.ref
 k_extra "se"
 k_extra "cTimes"
 case d1 => exact qm.d
 case d2 => exact qn.d
 case hq => k_extra "om"
 intro v41 F41 h41 tk41 hv41 f41 l41
 obtain ⟨b41, rfl⟩ := hv41.ref
 k_extra "se"
 k_extra "cPlus"
 case d1 => exact (qm.c.mul qn.b).up40 hp
 case d2 => exact (qm.d.mul qn.d).up40 hp
 case hp => exact Nat.le_refl _
 case hq => k_extra "om"
 intro v42 F42 h42 tk42 hv42 f42 l42
 obtain ⟨b42, rfl⟩ := hv42.ref
 k_extra "se"
 k_extra "cApplied"
 case qm => exact qn
 case qx => exact qm.e
 case qy => exact qm.f
 case hp => exact hq1
 case hq => exact hq2
 case hn => k_extra "om"
 intro T be bf F97 h97 tk97 eT de df f97 l97
 k_extra "un"
 k_extra "st"
 k_extra "callk"
 k_extra "st"
 have de' : DecV F97 (.ref be) (M.mul N).e := by
  show DecV F97 (.ref be) (M.e * N.a + M.f * N.c + N.e)
  rw [Rat.mul_comm M.e, Rat.mul_comm M.f]; exact de
 have df' : DecV F97 (.ref bf) (M.mul N).f := by
  show DecV F97 (.ref bf) (M.e * N.b + M.f * N.d + N.f)
  rw [Rat.mul_comm M.e, Rat.mul_comm M.f]; exact df
 have ka : DecV F97 (.ref b33) (M.mul N).a := (by k_extra "DecV" : DecV F97 (.ref b33) (M.a * N.a + M.b * N.c))
 have kb : DecV F97 (.ref b36) (M.mul N).b := (by k_extra "DecV" : DecV F97 (.ref b36) (M.a * N.b + M.b * N.d))
 have kc : DecV F97 (.ref b39) (M.mul N).c := (by k_extra "DecV" : DecV F97 (.ref b39) (M.c * N.a + M.d * N.c))
 have kd : DecV F97 (.ref b42) (M.mul N).d := (by k_extra "DecV" : DecV F97 (.ref b42) (M.c * N.b + M.d * N.d))
 k_extra "mkMat"
 intro v F98 h98 tk98 hv98 f98 l98
 k_extra "st"
 exact ret _ _ _ _ hv98 (f.back t f98).1 (f.back t f98).2
in #guard_msgs in open Nat
theorem c_identity {Q : Value → Shared → Prop} (hR : Room 16 A) (f : Fm h₀ F₀ W mu F h)
  (ret : ∀ v F' h' tk', MatV F' v M6.one → Fm h₀ F₀ W mu F' h' → Le F F' → Q v ⟨h', g, d, tk', os⟩) : wpAny (model prog w) A (call (.ref 371) []) Q E ⟨h, g, d, tk, os⟩ := by
 have t : Tk [] [] mu mu := .nil
 refine r_use (enter [] [] [("Matrix", .ref 360)] [] hR f (f.take t) (by unfold K; k_is) (by unfold K; k_is) (BindsTo.of_eq rfl) rfl rfl (by decide) (by decide) (by decide) (Ga.all (.cons (gv_Matrix) .nil)) rfl rfl rfl (by decide) rfl ?_)
 intro env h2 tk2 ok f2 hR2
 k_extra "st"
 k_extra "callk"
 k_extra "st"
 refine' c_mk_Mat (M := M6.one) ?R ?f ?n0 ?n1 ?n2 ?n3 ?n4 ?n5 ?q
 case f => with_reducible assumption
 case R => k_extra "room"
 case n0 => exact .int
 case n1 => exact .int
 case n2 => exact .int
 case n3 => exact .int
 case n4 => exact .int
 case n5 => exact .int
 intro v F98 h98 tk98 hv98 f98 l98
 k_extra "st"
 exact ret _ _ _ _ hv98 (f.back t f98).1 (f.back t f98).2
in #guard_msgs in open Nat
theorem c_translation {vx vy : Value} {x y : Rat} {Q : Value → Shared → Prop} (hR : Room 16 A) (f : Fm h₀ F₀ W mu F h) (kx : NumV F vx x) (ky : NumV F vy y)
  (ret : ∀ v F' h' tk', MatV F' v (M6.shift x y) → Fm h₀ F₀ W mu F' h' → Le F F' → Q v ⟨h', g, d, tk', os⟩) : wpAny (model prog w) A (call (.ref 378) [vx, vy]) Q E ⟨h, g, d, tk, os⟩ := by
 have t : Tk [] [] mu mu := .nil
 refine r_use (enter ["x", "y"] [] [("Matrix", .ref 360)] [("x", some (vx)), ("y", some (vy))] hR f (f.take t) (by unfold K; k_is) (by unfold K; k_is) (BindsTo.of_eq rfl) rfl rfl (by decide) (by decide) (by decide) (Ga.all (.cons (gv_Matrix) .nil)) rfl rfl rfl (by decide) rfl ?_)
 intro env h2 tk2 ok f2 hR2
 k_extra "st"
 k_extra "callk"
 k_extra "st"
 refine' c_mk_Mat (M := M6.shift x y) ?R ?f ?n0 ?n1 ?n2 ?n3 ?n4 ?n5 ?q
 case f => with_reducible assumption
 case R => k_extra "room"
 case n0 => exact .int
 case n1 => exact .int
 case n2 => exact .int
 case n3 => exact .int
 case n4 => exact kx
 case n5 => exact ky
 intro v F98 h98 tk98 hv98 f98 l98
 k_extra "st"
 exact ret _ _ _ _ hv98 (f.back t f98).1 (f.back t f98).2
in #guard_msgs in open Nat
end
inductive StrV (F : Fz) (v : Value) (l : List Int) : Prop
  | mk (a da b tb) (e0 : v = .ref a) (e1 : F a = some (Raw (instObj 231 da))) (e2 : F da = some (idc [("octets", some (.bytes b tb)), ("is_hex", some (.bool false))])) (e3 : Oct b) (e4 : codesOf b = l) : StrV F v l
noncomputable def PartV (F : Fz) (v : Value) : Part → Prop
  | .str l => StrV F v l
  | .num x => NumV F v x
theorem StrV.mono {F F' : Fz} {v : Value} {l : List Int} (le : Le F F') (h : StrV F v l) : StrV F' v l := by
 obtain ⟨a, da, b, tb, e, h1, h2, o, o'⟩ := h
 exact ⟨a, da, b, tb, e, le _ _ h1, le _ _ h2, o, o'⟩ in
theorem PartV.mono {F F' : Fz} {v : Value} {p : Part} (le : Le F F') (h : PartV F v p) : PartV F' v p := by
 cases p with
 | str l => exact StrV.mono le h
 | num x => exact NumV.mono le h
in #guard_msgs in open Nat
theorem Oct.okL {b : Array UInt8} (o : Oct b) : okL (codesOf b) := by
 refine ⟨fun n hn => ?_, by rw [codes_len]; exact o.sz⟩
 obtain ⟨c, hc, rfl⟩ := List.mem_map.mp hn
 obtain ⟨i, hi, e⟩ := List.getElem_of_mem hc
 exact o.code (i := i) (c := c) (by rw [← Array.getElem?_toList, List.getElem?_eq_getElem hi, e])
in #guard_msgs in open Nat
section
variable {A : Around} {h₀ h : Heap} {F₀ F : Fz} {W : List Addr} {mu mu' : Mu} {tk : Nat}
theorem c_lrow {wa sa pa : Addr} {vr vp : Value} {row : M6} {R U : Int} {tr tu : Tok} {x y : Rat} {c N e : Nat} {Q : Value → Shared → Prop} (hR : Room 12 A) (f : Fm h₀ F₀ W mu F h)
  (t : Tk [(wa, dic (strKind prog w) (wkvs sa pa vr vp))] [(wa, dic (strKind prog w) (wkvs sa pa vr vp))] mu mu) (hr : LMat F vr row) (qr : Mq 1 10 N row) (hx : Sc R x) (hy : Sc U y) (qx : Dq 1 e x) (qy : Dq 1 e y) (he : 1 ≤ e) (hn : e + N ≤ 900000)
  (ret : ∀ v F' h' tk', Ext F h [wa] F' h' → Mus F' h' [(wa, dic (strKind prog w) (wkvs sa pa v v))] → LMat F' v ((M6.shift x y).mul row) → Q .none ⟨h', g, d, tk', os⟩) :
  wpAny (model prog w) A (call (.ref 867) [.ref wa, .int R tr, .int U tu]) Q E ⟨h, g, d, tk, os⟩ := by
 refine r_use (enter ["world", "right", "up"] [] [("_law_product", .ref 825), ("_law_shift", .ref 832)] [("world", some (.ref wa)), ("right", some (.int R tr)), ("up", some (.int U tu))] hR f (f.take t) (by unfold K; k_is) (by unfold K; k_is) (BindsTo.of_eq rfl) rfl rfl (by decide) (by decide) (by decide) (Ga.all (.cons (gv__law_product) (.cons (gv__law_shift) .nil))) rfl rfl rfl (by decide) rfl ?_)
 intro env h1 tk1 ok f2 hR2
 k_extra "st"
 k_extra "callk"
 k_extra "st"
 k_extra "callk"
 k_extra "st"
 k_extra "cShift"
 case hx => exact hx
 case hy => exact hy
 intro vs F3 h3 tk3 hvs f3 l3
 k_extra "st"
 k_extra "cProd"
 case a => exact shift_q qx qy he
 case b => exact qr
 case h1 => decide
 case h2 => decide
 case h3 => decide
 case hn => k_extra "om"
 intro v F4 h4 tk4 hv f4 l4
 k_extra "st"
 k_extra "setD"
 k_extra "st"
 k_extra "setD"
 k_extra "st"
 rename Fm h F _ _ _ _ => fe
 exact ret v F4 _ _ fe.leave.1 fe.leave.2 hv
in #guard_msgs in open Nat
end
inductive Grow (R : Value → Row → Prop) (s s' : WS) (ds : List Value) : Prop
  | mk (rs : List Row) (e : s'.rows = s.rows ++ rs) (a : Al R ds rs) (l : rs.length ≤ 4) : Grow R s s' ds
section
variable {A : Around} {h₀ h : Heap} {F₀ F : Fz} {W : List Addr} {mu mu' : Mu} {tk : Nat}
noncomputable abbrev ws3 (prog : Program) (w : World) (tp c : Addr) (k : Nat) (wa sa pa du : Addr) (vr vp : Value) (l : LS) (b : Bool) (ds : List Value) : Mu := [(tp, tapeC c k), (wa, dic (strKind prog w) (wkvs sa pa vr vp)), (sa, dic (strKind prog w) (l.kvs b)), (du, lst ds)]
theorem Fm.tkW {us us' mu mu' : Mu} {h₀ h h' : Heap} {F₀ F F' : Fz} {W W' : List Addr} (f : Fm h₀ F₀ W mu F h) (m : Mus F' h' us') (x : Ext F h W' F' h') (e : adr us' = W') (t : Tk us us' mu mu') : Fm h₀ F₀ W mu' F' h' := f.tk t (by rw [← t.ups.2, e]; exact x) m in
theorem sc_adj {c N : Nat} {s : TS} {x : Rat} {X : Int} (q : TsQ c N s) (qx : Dq 1 10 x) (h : Sd2 X (x * s.size * s.Tz)) : Sc (-((X.fdiv (10 ^ 40)).fdiv 100000)) (adjOf s x) := by
 have h1 := h.div (((qx.mul q.size).mul q.Tz).to (q := 40) (by decide) (Nat.le_refl _))
 have e5 : (10 : Rat) ^ 5 = 100000 := by rw [show (5 : Nat) = 2 + 3 from rfl, r_pw, hund, thou]; grind
 have := h1.div 5 (y := x * s.size * s.Tz / 100000) (by rw [e5]; grind) ((adj_q q qx).neg.to (q := 40) (by decide) (Nat.le_refl _) |> fun z => by unfold adjOf at z; rwa [show - -(x * s.size * s.Tz / 100000) = x * s.size * s.Tz / 100000 from by grind] at z)
 exact this.neg
in #guard_msgs in open Nat
theorem part_st (s : WS) (p : Part) : (s.part p).st = s.st := by cases p <;> rfl in
theorem parts_st : ∀ (s : WS) (l : List Part), (s.parts l).st = s.st
 | _, [] => rfl
 | s, p :: l => (parts_st (s.part p) l).trans (part_st s p)
in #guard_msgs in open Nat
inductive LpL (tp wa du D : Addr) (ls : Fs) : Prop
  | mk (o1 o2 o3 o4 o5) (e : ls = ([("tape", some (.ref tp)), ("world", some (.ref wa)), ("due", some (.ref du)), ("parts", some (.ref D)), ("k", o1), ("octets", o2), ("operand", o3), ("worth", o4), ("way", o5)] : Fs)) : LpL tp wa du D ls
inductive JLp (tp wa du D c pa sa : Addr) (k : Nat) (vr : Value) (l : LS) (s : WS) (ds : List Value) (i : Nat) (ls : Fs) (mu : Mu) (F' : Fz) : Prop
  | mk (a : LpL tp wa du D ls) (us : List Value) (ps : List Part) (vp' : Value) (ds' : List Value) (rs : List Row) (em : mu = ((D, lst us) :: ws3 prog w tp c (k + 1 + 2 * i) wa sa pa du vr vp' l s.st.font (ds ++ ds') : Mu))
    (h1 : Al (PartV F') us ps) (h2 : ∀ p ∈ ps, p.ok) (h3 : ps.length = i) (h4 : LMat F' vp' (s.parts ps).place) (h5 : (s.parts ps).rows = s.rows ++ rs) (h6 : Al (RowV F') ds' rs) (h7 : rs.length ≤ 2 * i) : JLp tp wa du D c pa sa k vr l s ds i ls mu F'
theorem c_lparts {tp c wa sa pa du : Addr} {k : Nat} {l : LS} {s : WS} {vr vp : Value} {ds : List Value} {cc N : Nat} {Q : Value → Shared → Prop} (hR : Room 16 A) (f : Fm h₀ F₀ W mu F h)
  (t : Tk (ws3 prog w tp c k wa sa pa du vr vp l s.st.font ds) (ws3 prog w tp c k wa sa pa du vr vp l s.st.font ds) mu mu) (hc : TapeOk F c) (hk : k ≤ 1000)
  (hl : LsV F l s.st) (hp : LMat F vp s.place) (qs : WsQ cc N s) (hcc : cc ≤ 24) (hN : N ≤ 50000) (hd : ds.length ≤ 800)
  (ret : ∀ D us ps vp' ds' F' h' tk', Ext F h [tp, wa, sa, du] F' h' → Mus F' h' (ws3 prog w tp c (k + 5) wa sa pa du vr vp' l s.st.font (ds ++ ds')) → F' D = some (lst us) → Al (PartV F') us ps → (∀ p ∈ ps, p.ok) → ps.length ≤ 2 → LMat F' vp' (s.parts ps).place →
   (Grow (RowV F') s (s.parts ps) ds') → Q (.ref D) ⟨h', g, d, tk', os⟩) :
  wpAny (model prog w) A (call (.ref 879) [.ref tp, .ref wa, .ref du]) Q E ⟨h, g, d, tk, os⟩ := by
 refine r_use (enter ["tape", "world", "due"] ["parts", "k", "octets", "operand", "worth", "way"] [("range", .type "range"), ("_law_draw", .ref 806), ("_law_octets", .ref 820), ("String", .ref 231), ("_law_show", .ref 860), ("_law_number", .ref 813), ("_law_unit", .ref 798), ("_law_product", .ref 825), ("_law_shift", .ref 832)] [("tape", some (.ref tp)), ("world", some (.ref wa)), ("due", some (.ref du)), ("parts", none), ("k", none), ("octets", none), ("operand", none), ("worth", none), ("way", none)] hR f (f.take t) (by unfold K; k_is) (by unfold K; k_is) (BindsTo.of_eq rfl) rfl rfl (by decide) (by decide) (by decide) (Ga.all (.cons (gv_range) (.cons (gv__law_draw) (.cons (gv__law_octets) (.cons (gv_String) (.cons (gv__law_show) (.cons (gv__law_number) (.cons (gv__law_unit) (.cons (gv__law_product) (.cons (gv__law_shift) .nil)))))))))) rfl rfl rfl (by decide) rfl ?_)
 intro env h1 tk1 ok f2 hR2
 k_extra "st"
 k_extra "mklM"
 intro D h3 f3 oD
 k_extra "st"
 k_extra "callb"
 k_extra "st"
 k_extra "callk"
 k_extra "st"
 k_extra "cDraw"
 intro r tr F4 h4 tk4 r0 r1 f4 l4
 k_extra "st"
 k_extra "rng"
 intro R F5 h5 tk5 f5 l5 e5
 obtain ⟨n, hn, hn2⟩ : ∃ n : Nat, 1 + r = 0 + (n : Int) ∧ n ≤ 2 := dr (a := 1) (b := 2) (by assumption) (by assumption)
 rw [hn] at e5
 refine for_range (n := n) (a := 0) (JLp tp wa du D c pa sa k vr l s ds)
  (by k_extra "hd") e5 (by decide) (by k_extra "om") (by assumption) ⟨⟨_, _, _, _, _, rfl⟩, [], [], vp, [], [], by rw [List.append_nil], .nil, fun p hp => (nomatch hp), rfl, hp.mono (l4.trans l5), by rw [List.append_nil]; rfl, .nil, Nat.le_refl _⟩ ?_ ?_ (fun I v => rfl)
 ·rintro I i ti ls' mu' F6 h6 tk6 hi ⟨⟨o1, o2, o3, o4, o5, rfl⟩, us, ps, vp', ds', rs, rfl, hus, hps, hpl, hp', hrs, hds, hrl⟩ l6 f6
  have q6 := WsQ.parts qs hps hcc
  have lp : us.length ≤ 2 := by rw [hus.len]; k_extra "om"
  have st6 : (s.parts ps).st = s.st := parts_st s ps
  rw [hpl] at q6
  have q7 : WsQ cc (N + 400) (s.parts ps) := q6.to (Nat.le_refl _) (by k_extra "om")
  have qst := q7.st
  rw [st6] at qst
  k_extra "st"
  k_extra "callk"
  k_extra "st"
  k_extra "cDraw"
  intro r' tr' F7 h7 tk7 r0' r1' f7 l7
  k_extra "st"
  refine ite_b (fun c1 => ?_) (fun c1 => ?_)
  ·k_extra "st"
   k_extra "callk"
   k_extra "st"
   k_extra "cOctets"
   intro b tb F8 h8 tk8 ob f8 l8
   k_extra "st"
   k_extra "gmA"
   k_extra "cwB"
   k_extra "st"
   k_extra "callk"
   k_extra "st"
   k_extra "mkString"
   intro a da F9 h9 tk9 ea eda f9 l9
   k_extra "st"
   k_extra "app"
   case hz => k_extra "om"
   k_extra "st"
   k_extra "callk"
   k_extra "st"
   have l69 : Le F6 F9 := by k_extra "le"
   k_extra "cLshow"
   case hl => exact hl.mono ((l4.trans l5).trans (l6.trans l69))
   case hp => exact hp'.mono l69
   case ob => exact ob
   case qs => exact qst
   case qp => exact q7.place
   case hc => exact hcc
   case hN => k_extra "om"
   case hd => have := hds.len; rw [List.length_append]; k_extra "om"
   intro v ds2 F10 h10 tk10 x m hv hds2
   rename Fm h F _ _ _ _ => fc
   have f11 := fc.tkW m x rfl (by k_extra "tk")
   k_extra "st"
   have l610 : Le F6 F10 := l69.trans x.le
   refine ⟨_, _, F10, _, _, rfl, f11, l6.trans l610, ⟨_, _, _, _, _, rfl⟩, us ++ [.ref a], ps ++ [.str (codesOf b)], v, ds' ++ ds2, rs ++ showR s.st (s.parts ps).place (codesOf b), ?_, (hus.mono fun v p => PartV.mono l610).app (.cons (show PartV F10 (.ref a) (.str (codesOf b)) from ⟨a, da, b, tb, rfl, x.le _ _ ea, x.le _ _ eda, ob, rfl⟩) .nil), ?_, by simp [hpl], ?_, ?_, (hds.mono fun v r => RowV.mono l610).app hds2, ?_⟩
   ·rw [List.append_assoc]; rfl
   ·intro p hp
    rcases List.mem_append.mp hp with hp | hp
    ·exact hps p hp
    ·rw [List.mem_singleton.mp hp]; exact ob.okL
   ·rw [WS.parts_snoc]
    show LMat F10 v (showP (s.parts ps).st (s.parts ps).place (codesOf b))
    rw [st6]; exact hv
   ·rw [WS.parts_snoc]
    show (s.parts ps).rows ++ showR (s.parts ps).st (s.parts ps).place (codesOf b) = _
    rw [st6, hrs, List.append_assoc]
   ·have := ob.sz
    rw [List.length_append, showR_len, codes_len]; k_extra "om"
  ·k_extra "st"
   k_extra "callk"
   k_extra "st"
   k_extra "cNumber"
   intro T v X tX x F8 h8 tk8 e8 nv sx qx f8 l8
   k_extra "un"
   k_extra "st"
   k_extra "gmA"
   k_extra "cwB"
   k_extra "st"
   k_extra "app"
   case hz => k_extra "om"
   k_extra "st"
   k_extra "mul"
   case hm => exact bits_small (Sc.bits sx qx (by decide)) (Sc.bits hl.size qst.size (by decide)) (by decide)
   k_extra "st"
   k_extra "callk"
   k_extra "cUnit"
   intro tu F9 h9 tk9 f9 l9
   k_extra "div"
   have s1 : Sc ((X * l.S).fdiv (10 ^ 40)) (x * s.st.size) := (sx.mul hl.size).div ((qx.mul qst.size).to (q := 40) (by decide) (Nat.le_refl _))
   k_extra "st"
   k_extra "mul"
   case hm => exact bits_small (Sc.bits s1 (qx.mul qst.size) (by decide)) (Sc.bits hl.Tz qst.Tz (by decide)) (by decide)
   k_extra "st"
   k_extra "callk"
   k_extra "cUnit"
   intro tu2 F10 h10 tk10 f10 l10
   k_extra "div"
   k_extra "st"
   k_extra "div"
   have s2 := sc_adj qst qx (s1.mul hl.Tz)
   k_extra "st"
   k_extra "callk"
   k_extra "st"
   k_extra "callk"
   k_extra "st"
   k_extra "cShift"
   case hx => exact s2
   case hy => exact .zero
   intro vs F11 h11 tk11 hvs f11 l11
   have l611 : Le F6 F11 := by k_extra "le"
   have hp11 := hp'.mono l611
   k_extra "st"
   k_extra "cProd"
   case a => exact shift_q (adj_q qst qx) Dq.zero (by decide)
   case b => exact q7.place
   case h1 => decide
   case h2 => decide
   case h3 => decide
   case hn => k_extra "om"
   intro vn F12 h12 tk12 hvn f12 l12
   k_extra "st"
   k_extra "setD"
   k_extra "st"
   rename Fm h F _ _ _ _ => fe
   have l812 : Le F8 F12 := ((l9.trans l10).trans l11).trans l12
   have l612 : Le F6 F12 := l611.trans l12
   refine ⟨_, _, F12, _, _, rfl, fe, l6.trans l612, ⟨_, _, _, _, _, rfl⟩, us ++ [v], ps ++ [.num x], vn, ds', rs, ?_, (hus.mono fun v p => PartV.mono l612).app (.cons (show PartV F12 v (.num x) from nv.mono l812) .nil), ?_, by simp [hpl], ?_, ?_, hds.mono fun v r => RowV.mono l612, by k_extra "om"⟩
   ·rfl
   ·intro p hp
    rcases List.mem_append.mp hp with hp | hp
    ·exact hps p hp
    ·rw [List.mem_singleton.mp hp]; exact qx
   ·rw [WS.parts_snoc]
    show LMat F12 vn ((M6.shift (adjOf (s.parts ps).st x) 0).mul (s.parts ps).place)
    rw [st6]; exact hvn
   ·rw [WS.parts_snoc]
    exact hrs
 ·rintro ls' mu' F6 h6 tk6 ⟨⟨o1, o2, o3, o4, o5, rfl⟩, us, ps, vp', ds', rs, rfl, hus, hps, hpl, hp', hrs, hds, hrl⟩ l6 f6
  k_extra "st"
  have fw := f6.weak (a := tp) (c := tapeC c (k + 1 + 2 * n)) (c' := tapeC c (k + 5)) (.tail _ (.tail _ (.head _))) (.tail (.tail .head)) (fun o => tape_weak (by k_extra "om"))
  have ff := fw.freeze (.tail .head) oD.h0 oD.nw
  have lz : Le F6 (F6.set D (lst us)) := Fz.le_set (f6.mus.has (D, _) (.tail _ (.head _))).2
  exact ret D us ps vp' ds' _ _ _ ff.leave.1 ff.leave.2 Fz.set_self (hus.mono fun v p => PartV.mono lz) hps (by k_extra "om") (hp'.mono lz) ⟨rs, hrs, hds.mono fun v r => RowV.mono lz, by k_extra "om"⟩
in #guard_msgs in open Nat
end
noncomputable def opWord : Op → Str
  | .Tc _ => "Tc" | .Tw _ => "Tw" | .Tz _ => "Tz" | .TL _ => "TL" | .Ts _ => "Ts" | .Tf _ _ => "Tf" | .Td _ _ => "Td" | .TD _ _ => "TD" | .Tst => "T*" | .Tm _ => "Tm"
  | .Tj _ => "Tj" | .TJ _ => "TJ" | .q1 _ => "'" | .q2 _ _ _ => "\"" | .q => "q" | .Q => "Q" | .cm _ => "cm" | .BT => "BT" | .ET => "ET"
inductive SixV (F : Fz) (vs : List Value) (m : M6) : Prop
  | mk (a b c d e f) (e0 : vs = [a, b, c, d, e, f]) (e1 : NumV F a m.a) (e2 : NumV F b m.b) (e3 : NumV F c m.c) (e4 : NumV F d m.d) (e5 : NumV F e m.e) (e6 : NumV F f m.f) : SixV F vs m
inductive NameV (F : Fz) (v : Value) (b : Bool) : Prop
  | mk (a da t) (e0 : v = .ref a) (e1 : F a = some (Raw (instObj 209 da))) (e2 : F da = some (idc [("text", some (.str (fname b) t))])) : NameV F v b
noncomputable def ArgsV (F : Fz) (vs : List Value) : Op → Prop
  | .Tc x => ∃ v, vs = [v] ∧ NumV F v x
  | .Tw x => ∃ v, vs = [v] ∧ NumV F v x
  | .Tz x => ∃ v, vs = [v] ∧ NumV F v x
  | .TL x => ∃ v, vs = [v] ∧ NumV F v x
  | .Ts x => ∃ v, vs = [v] ∧ NumV F v x
  | .Tf b x => ∃ u v, vs = [u, v] ∧ NameV F u b ∧ NumV F v x
  | .Td x y => ∃ u v, vs = [u, v] ∧ NumV F u x ∧ NumV F v y
  | .TD x y => ∃ u v, vs = [u, v] ∧ NumV F u x ∧ NumV F v y
  | .Tm m => SixV F vs m
  | .cm m => SixV F vs m
  | .Tj l => ∃ v, vs = [v] ∧ StrV F v l
  | .q1 l => ∃ v, vs = [v] ∧ StrV F v l
  | .TJ l => ∃ D us, vs = [.ref D] ∧ F D = some (lst us) ∧ Al (PartV F) us l
  | .q2 x y l => ∃ u v s, vs = [u, v, s] ∧ NumV F u x ∧ NumV F v y ∧ StrV F s l
  | .Tst => vs = []
  | .q => vs = []
  | .Q => vs = []
  | .BT => vs = []
  | .ET => vs = []
theorem SixV.mono {F F' : Fz} (l : Le F F') {vs : List Value} {m : M6} (h : SixV F vs m) : SixV F' vs m := by
 obtain ⟨a, b, c, d, e, f, z, h0, h1, h2, h3, h4, h5⟩ := h
 exact ⟨a, b, c, d, e, f, z, h0.mono l, h1.mono l, h2.mono l, h3.mono l, h4.mono l, h5.mono l⟩ in
theorem NameV.mono {F F' : Fz} (l : Le F F') {v : Value} {b : Bool} (h : NameV F v b) : NameV F' v b := by
 obtain ⟨a, da, t, z, h0, h1⟩ := h
 exact ⟨a, da, t, z, l _ _ h0, l _ _ h1⟩
in #guard_msgs in open Nat
theorem ArgsV.mono {F F' : Fz} (l : Le F F') {vs : List Value} {o : Op} (h : ArgsV F vs o) : ArgsV F' vs o := by
 cases o with
 | Tc x => obtain ⟨v, e, n⟩ := h; exact ⟨v, e, n.mono l⟩
 | Tw x => obtain ⟨v, e, n⟩ := h; exact ⟨v, e, n.mono l⟩
 | Tz x => obtain ⟨v, e, n⟩ := h; exact ⟨v, e, n.mono l⟩
 | TL x => obtain ⟨v, e, n⟩ := h; exact ⟨v, e, n.mono l⟩
 | Ts x => obtain ⟨v, e, n⟩ := h; exact ⟨v, e, n.mono l⟩
 | Tf b x => obtain ⟨u, v, e, m, n⟩ := h; exact ⟨u, v, e, m.mono l, n.mono l⟩
 | Td x y => obtain ⟨u, v, e, m, n⟩ := h; exact ⟨u, v, e, m.mono l, n.mono l⟩
 | TD x y => obtain ⟨u, v, e, m, n⟩ := h; exact ⟨u, v, e, m.mono l, n.mono l⟩
 | Tm m => exact SixV.mono l h
 | cm m => exact SixV.mono l h
 | Tj x => obtain ⟨v, e, n⟩ := h; exact ⟨v, e, n.mono l⟩
 | q1 x => obtain ⟨v, e, n⟩ := h; exact ⟨v, e, n.mono l⟩
 | TJ x => obtain ⟨D, us, e, n, k⟩ := h; exact ⟨D, us, e, l _ _ n, k.mono fun v p => PartV.mono l⟩
 | q2 x y z => obtain ⟨u, v, s, e, m, n, k⟩ := h; exact ⟨u, v, s, e, m.mono l, n.mono l, k.mono l⟩
 | Tst => exact h
 | q => exact h
 | Q => exact h
 | BT => exact h
 | ET => exact h
in #guard_msgs in open Nat
inductive OpV (F : Fz) (v : Value) (o : Op) : Prop
  | mk (a da lo t vs) (e0 : v = .ref a) (e1 : F a = some (Raw (instObj 407 da))) (e2 : F da = some (idc [("word", some (.str (opWord o) t)), ("operands", some (.ref lo))])) (e3 : F lo = some (lst vs)) (e4 : ArgsV F vs o) : OpV F v o
theorem OpV.mono {F F' : Fz} (l : Le F F') {v : Value} {o : Op} (h : OpV F v o) : OpV F' v o := by
 obtain ⟨a, da, lo, t, vs, e, h0, h1, h2, h3⟩ := h
 exact ⟨a, da, lo, t, vs, e, l _ _ h0, l _ _ h1, l _ _ h2, h3.mono l⟩
in #guard_msgs in open Nat
theorem Tk.all : ∀ {us us' : Mu}, adr us = adr us' → Tk us us' us us'
 | [], [], _ => .nil
 | (a, c) :: us, (a', c') :: us', h => by
  have e := List.cons.inj h
  obtain ⟨rfl, e2⟩ := e
  exact .take (Tk.all e2)
 | [], _ :: _, h => by cases h
 | _ :: _, [], h => by cases h
in #guard_msgs in open Nat
structure PE where
  a : Addr
  l : LS
  t : TS
noncomputable def pcs (prog : Program) (w : World) (ps : List PE) : Mu := ps.map fun p => (p.a, dic (strKind prog w) (p.l.kvs p.t.font))
noncomputable def pvs (ps : List PE) : List Value := (ps.map fun p => Value.ref p.a).reverse
theorem pvs_cons (p : PE) (ps : List PE) : pvs (p :: ps) = pvs ps ++ [.ref p.a] := by simp [pvs]
theorem Fm.exch {h₀ h h' : Heap} {F₀ F F' : Fz} {us us' rest : Mu} (f : Fm h₀ F₀ [] (us ++ rest) F h) (x : Ext F h (adr us) F' h') (m : Mus F' h' us') (fr : ∀ a ∈ adr us', a ∈ adr us ∨ h.get? a = none) : Fm h₀ F₀ [] (us' ++ rest) F' h' := by
 have nd := f.mus.nd
 have nd' : (adr us ++ adr rest).Nodup := by rw [adr, adr, ← List.map_append]; exact nd
 have dj := List.nodup_append.mp nd'
 have fresh : ∀ a ∈ adr us, h₀.get? a = none := fun a ha => by
  obtain ⟨p, hp, rfl⟩ := of_mem_adr ha
  rcases f.own p (List.mem_append_left _ hp) with q | q
  ·cases q
  ·exact q
 refine ⟨⟨fun a o e _ => x.keep a o (f.ext.keep a o e (fun z => nomatch z)) fun q => ?_, f.ext.le.trans x.le, x.fz, fun a c e => ?_⟩, ⟨fun p hp => ?_, ?_⟩, fun p hp => ?_, (fun a ha => nomatch ha), f.base⟩
 ·rw [fresh a q] at e; cases e
 ·rcases x.new a c e with q | q
  ·exact f.ext.new a c q
  ·exact .inr (f.fresh q)
 ·rcases List.mem_append.mp hp with hp | hp
  ·exact m.has p hp
  ·obtain ⟨⟨o, e, k⟩, n⟩ := f.mus.has p (List.mem_append_right _ hp)
   have nu : p.1 ∉ adr us := fun q => dj.2.2 p.1 q p.1 (mem_adr hp) rfl
   refine ⟨⟨o, x.keep _ o e nu, k⟩, ?_⟩
   cases z : F' p.1 with
   | none => rfl
   | some c =>
    rcases x.new _ c z with y | y
    ·rw [n] at y; cases y
    ·rw [e] at y; cases y
 ·show ((us' ++ rest).map (·.1)).Nodup
  rw [List.map_append]
  refine List.nodup_append.mpr ⟨m.nd, dj.2.1, fun a ha b hb e => ?_⟩
  subst e
  rcases fr a ha with q | q
  ·exact dj.2.2 a q a hb rfl
  ·obtain ⟨p, hp, e⟩ := of_mem_adr hb
   exact (f.mus.has p (List.mem_append_right _ hp)).1.ne_none (e ▸ q)
 ·rcases List.mem_append.mp hp with hp | hp
  ·rcases fr p.1 (mem_adr hp) with q | q
   ·exact .inr (fresh _ q)
   ·exact .inr (f.fresh q)
  ·exact f.own p (List.mem_append_right _ hp)
in #guard_msgs in open Nat
section
variable {A : Around} {h₀ h : Heap} {F₀ F : Fz} {W : List Addr} {mu mu' : Mu} {tk : Nat}
theorem c_kindN {v : Value} {x : Rat} {Q : Value → Shared → Prop} (hR : Room 4 A) (f : Fm h₀ F₀ W mu F h) (nv : NumV F v x)
  (ret : ∀ k t F' h' tk', (k = ("int" : Str) ∨ k = ("real" : Str)) → Fm h₀ F₀ W mu F' h' → Le F F' → Q (.str k t) ⟨h', g, d, tk', os⟩) : wpAny (model prog w) A (call (.ref 291) [v]) Q E ⟨h, g, d, tk, os⟩ := by
 have t : Tk [] [] mu mu := .nil
 rcases nv with ⟨n, tn, rfl, rfl⟩ | ⟨a, m, p, rfl, ⟨da, ta, tb, ha, hda⟩, nf⟩
 ·refine r_use (enter ["value"] [] [("isinstance", .builtin "isinstance"), ("bool", .type "bool"), ("int", .type "int"), ("Decimal", .ref 167), ("Name", .ref 209), ("String", .ref 231), ("list", .type "list"), ("dict", .type "dict")] [("value", some (.int n tn))] hR f (f.take t) (by unfold K; k_is) (by unfold K; k_is) (BindsTo.of_eq rfl) rfl rfl (by decide) (by decide) (by decide) (Ga.all (.cons (gv_isinstance) (.cons (gv_bool) (.cons (gv_int) (.cons (gv_Decimal) (.cons (gv_Name) (.cons (gv_String) (.cons (gv_list) (.cons (gv_dict) .nil))))))))) rfl rfl rfl (by decide) rfl ?_)
  intro env h2 tk2 ok f2 hR2
  k_extra "sf"
  k_extra "callb"
  k_extra "sf"
  k_extra "isi"
  k_extra "sf"
  k_extra "callb"
  k_extra "sf"
  k_extra "isi"
  k_extra "sf"
  obtain ⟨f4, l4⟩ := f.back t f2
  exact ret _ _ _ _ _ (.inl rfl) f4 l4
 ·refine r_use (enter ["value"] [] [("isinstance", .builtin "isinstance"), ("bool", .type "bool"), ("int", .type "int"), ("Decimal", .ref 167), ("Name", .ref 209), ("String", .ref 231), ("list", .type "list"), ("dict", .type "dict")] [("value", some (.ref a))] hR f (f.take t) (by unfold K; k_is) (by unfold K; k_is) (BindsTo.of_eq rfl) rfl rfl (by decide) (by decide) (by decide) (Ga.all (.cons (gv_isinstance) (.cons (gv_bool) (.cons (gv_int) (.cons (gv_Decimal) (.cons (gv_Name) (.cons (gv_String) (.cons (gv_list) (.cons (gv_dict) .nil))))))))) rfl rfl rfl (by decide) rfl ?_)
  intro env h2 tk2 ok f2 hR2
  k_extra "sf"
  k_extra "callb"
  k_extra "sf"
  k_extra "isi"
  k_extra "sf"
  k_extra "callb"
  k_extra "sf"
  k_extra "isi"
  k_extra "sf"
  k_extra "callb"
  k_extra "sf"
  k_extra "isi"
  k_extra "sf"
  obtain ⟨f4, l4⟩ := f.back t f2
  exact ret _ _ _ _ _ (.inr rfl) f4 l4
in #guard_msgs in open Nat
theorem c_kindName {v : Value} {b : Bool} {Q : Value → Shared → Prop} (hR : Room 4 A) (f : Fm h₀ F₀ W mu F h) (nv : NameV F v b)
  (ret : ∀ t F' h' tk', Fm h₀ F₀ W mu F' h' → Le F F' → Q (.str "name" t) ⟨h', g, d, tk', os⟩) : wpAny (model prog w) A (call (.ref 291) [v]) Q E ⟨h, g, d, tk, os⟩ := by
 have t : Tk [] [] mu mu := .nil
 obtain ⟨a, da, tx, rfl, ha, hda⟩ := nv
 refine r_use (enter ["value"] [] [("isinstance", .builtin "isinstance"), ("bool", .type "bool"), ("int", .type "int"), ("Decimal", .ref 167), ("Name", .ref 209), ("String", .ref 231), ("list", .type "list"), ("dict", .type "dict")] [("value", some (.ref a))] hR f (f.take t) (by unfold K; k_is) (by unfold K; k_is) (BindsTo.of_eq rfl) rfl rfl (by decide) (by decide) (by decide) (Ga.all (.cons (gv_isinstance) (.cons (gv_bool) (.cons (gv_int) (.cons (gv_Decimal) (.cons (gv_Name) (.cons (gv_String) (.cons (gv_list) (.cons (gv_dict) .nil))))))))) rfl rfl rfl (by decide) rfl ?_)
 intro env h2 tk2 ok f2 hR2
 k_extra "sf"
 k_extra "callb"
 k_extra "sf"
 k_extra "isi"
 k_extra "sf"
 k_extra "callb"
 k_extra "sf"
 k_extra "isi"
 k_extra "sf"
 k_extra "callb"
 k_extra "sf"
 k_extra "isi"
 k_extra "sf"
 k_extra "callb"
 k_extra "sf"
 k_extra "isi"
 k_extra "sf"
 obtain ⟨f4, l4⟩ := f.back t f2
 exact ret _ _ _ _ f4 l4
in #guard_msgs in open Nat
theorem c_kindStr {v : Value} {l : List Int} {Q : Value → Shared → Prop} (hR : Room 4 A) (f : Fm h₀ F₀ W mu F h) (nv : StrV F v l)
  (ret : ∀ t F' h' tk', Fm h₀ F₀ W mu F' h' → Le F F' → Q (.str "string" t) ⟨h', g, d, tk', os⟩) : wpAny (model prog w) A (call (.ref 291) [v]) Q E ⟨h, g, d, tk, os⟩ := by
 have t : Tk [] [] mu mu := .nil
 obtain ⟨a, da, b, tb, rfl, ha, hda, ob, hl⟩ := nv
 refine r_use (enter ["value"] [] [("isinstance", .builtin "isinstance"), ("bool", .type "bool"), ("int", .type "int"), ("Decimal", .ref 167), ("Name", .ref 209), ("String", .ref 231), ("list", .type "list"), ("dict", .type "dict")] [("value", some (.ref a))] hR f (f.take t) (by unfold K; k_is) (by unfold K; k_is) (BindsTo.of_eq rfl) rfl rfl (by decide) (by decide) (by decide) (Ga.all (.cons (gv_isinstance) (.cons (gv_bool) (.cons (gv_int) (.cons (gv_Decimal) (.cons (gv_Name) (.cons (gv_String) (.cons (gv_list) (.cons (gv_dict) .nil))))))))) rfl rfl rfl (by decide) rfl ?_)
 intro env h2 tk2 ok f2 hR2
 k_extra "sf"
 k_extra "callb"
 k_extra "sf"
 k_extra "isi"
 k_extra "sf"
 k_extra "callb"
 k_extra "sf"
 k_extra "isi"
 k_extra "sf"
 k_extra "callb"
 k_extra "sf"
 k_extra "isi"
 k_extra "sf"
 k_extra "callb"
 k_extra "sf"
 k_extra "isi"
 k_extra "sf"
 k_extra "callb"
 k_extra "sf"
 k_extra "isi"
 k_extra "sf"
 obtain ⟨f4, l4⟩ := f.back t f2
 exact ret _ _ _ _ f4 l4
in #guard_msgs in open Nat
end
section
variable {A : Around} {h₀ h : Heap} {F₀ F : Fz} {W : List Addr} {mu mu' : Mu} {tk : Nat}
theorem c_isnum {v : Value} {x : Rat} {Q : Value → Shared → Prop} (hR : Room 6 A) (f : Fm h₀ F₀ W mu F h) (nv : NumV F v x)
  (ret : ∀ F' h' tk', Fm h₀ F₀ W mu F' h' → Le F F' → Q (.bool true) ⟨h', g, d, tk', os⟩) : wpAny (model prog w) A (call (.ref 298) [v]) Q E ⟨h, g, d, tk, os⟩ := by
 have t : Tk [] [] mu mu := .nil
 refine r_use (enter ["value"] [] [("kind_of", .ref 291)] [("value", some (v))] hR f (f.take t) (by unfold K; k_is) (by unfold K; k_is) (BindsTo.of_eq rfl) rfl rfl (by decide) (by decide) (by decide) (Ga.all (.cons (gv_kind_of) .nil)) rfl rfl rfl (by decide) rfl ?_)
 intro env h2 tk2 ok f2 hR2
 k_extra "sf"
 k_extra "callk"
 k_extra "sf"
 k_extra "cKindN"
 intro k tk0 F3 h3 tk3 hk f3 l3
 k_extra "sf"
 k_extra "mkt"
 intro T F4 h4 f4 l4 e4
 have f5 := f.back t f4
 rcases hk with rfl | rfl
 ·k_extra "ins"
  k_extra "sf"
  exact ret _ _ _ f5.1 f5.2
 ·k_extra "ins"
  k_extra "sf"
  exact ret _ _ _ f5.1 f5.2
in #guard_msgs in open Nat
theorem c_isnumS {v : Value} {l : List Int} {Q : Value → Shared → Prop} (hR : Room 6 A) (f : Fm h₀ F₀ W mu F h) (nv : StrV F v l)
  (ret : ∀ F' h' tk', Fm h₀ F₀ W mu F' h' → Le F F' → Q (.bool false) ⟨h', g, d, tk', os⟩) : wpAny (model prog w) A (call (.ref 298) [v]) Q E ⟨h, g, d, tk, os⟩ := by
 have t : Tk [] [] mu mu := .nil
 refine r_use (enter ["value"] [] [("kind_of", .ref 291)] [("value", some (v))] hR f (f.take t) (by unfold K; k_is) (by unfold K; k_is) (BindsTo.of_eq rfl) rfl rfl (by decide) (by decide) (by decide) (Ga.all (.cons (gv_kind_of) .nil)) rfl rfl rfl (by decide) rfl ?_)
 intro env h2 tk2 ok f2 hR2
 k_extra "sf"
 k_extra "callk"
 k_extra "sf"
 k_extra "cKindStr"
 case nv => exact nv
 intro tk0 F3 h3 tk3 f3 l3
 k_extra "sf"
 k_extra "mkt"
 intro T F4 h4 f4 l4 e4
 have f5 := f.back t f4
 k_extra "ins"
 k_extra "sf"
 exact ret _ _ _ f5.1 f5.2
in #guard_msgs in open Nat
end
inductive Fits (F : Fz) : Value → Str → Prop
  | num {v : Value} {x : Rat} : NumV F v x → Fits F v "number"
  | name {v : Value} {b : Bool} : NameV F v b → Fits F v "name"
  | str {v : Value} {l : List Int} : StrV F v l → Fits F v "string"
  | shown {D : Addr} {us : List Value} {ps : List Part} : F D = some (lst us) → Al (PartV F) us ps → Fits F (.ref D) "shown"
theorem Fits.mono {F F' : Fz} (l : Le F F') {v : Value} {k : Str} (h : Fits F v k) : Fits F' v k := by
 cases h with
 | num h => exact .num (h.mono l)
 | name h => exact .name (h.mono l)
 | str h => exact .str (h.mono l)
 | shown a b => exact .shown (l _ _ a) (b.mono fun v p => PartV.mono l) in
theorem Al.at {α : Type} {R : Value → α → Prop} {vs : List Value} {xs : List α} (h : Al R vs xs) {i : Nat} {v : Value} (e : vs[i]? = some v) : ∃ x, xs[i]? = some x ∧ R v x := by
 induction h generalizing i with
 | nil => simp at e
 | cons r _ ih =>
  cases i with
  | zero => simp at e; subst e; exact ⟨_, rfl, r⟩
  | succ i => simpa using ih (i := i) (by simpa using e)
in #guard_msgs in open Nat
section
variable {A : Around} {h₀ h : Heap} {F₀ F : Fz} {W : List Addr} {mu mu' : Mu} {tk : Nat}
theorem c_fits {v : Value} {k : Str} {tk0 : Tok} {Q : Value → Shared → Prop} (hR : Room 8 A) (f : Fm h₀ F₀ W mu F h) (fv : Fits F v k)
  (ret : ∀ F' h' tk', Fm h₀ F₀ W mu F' h' → Le F F' → Q (.bool true) ⟨h', g, d, tk', os⟩) : wpAny (model prog w) A (call (.ref 423) [v, .str k tk0]) Q E ⟨h, g, d, tk, os⟩ := by
 have t : Tk [] [] mu mu := .nil
 cases fv with
 | num nv =>
  refine r_use (enter ["value", "kind"] [] [("is_number", .ref 298), ("kind_of", .ref 291), ("isinstance", .builtin "isinstance"), ("list", .type "list")] [("value", some (v)), ("kind", some (.str ("number" : Str) tk0))] hR f (f.take t) (by unfold K; k_is) (by unfold K; k_is) (BindsTo.of_eq rfl) rfl rfl (by decide) (by decide) (by decide) (Ga.all (.cons (gv_is_number) (.cons (gv_kind_of) (.cons (gv_isinstance) (.cons (gv_list) .nil))))) rfl rfl rfl (by decide) rfl ?_)
  intro env h2 tk2 ok f2 hR2
  k_extra "sf"
  try k_extra "eqs"
  k_extra "sf"
  k_extra "callk"
  k_extra "sf"
  k_extra "cIsnum"
  intro F3 h3 tk3 f3 l3
  k_extra "sf"
  exact ret _ _ _ (f.back t f3).1 (f.back t f3).2
 | name nv =>
  refine r_use (enter ["value", "kind"] [] [("is_number", .ref 298), ("kind_of", .ref 291), ("isinstance", .builtin "isinstance"), ("list", .type "list")] [("value", some (v)), ("kind", some (.str ("name" : Str) tk0))] hR f (f.take t) (by unfold K; k_is) (by unfold K; k_is) (BindsTo.of_eq rfl) rfl rfl (by decide) (by decide) (by decide) (Ga.all (.cons (gv_is_number) (.cons (gv_kind_of) (.cons (gv_isinstance) (.cons (gv_list) .nil))))) rfl rfl rfl (by decide) rfl ?_)
  intro env h2 tk2 ok f2 hR2
  k_extra "sf"
  try k_extra "eqs"
  k_extra "sf"
  try k_extra "eqs"
  k_extra "sf"
  try k_extra "eqs"
  k_extra "sf"
  k_extra "callk"
  k_extra "sf"
  k_extra "cKindName"
  case nv => exact nv
  intro tn F3 h3 tk3 f3 l3
  k_extra "sf"
  try k_extra "eqs"
  k_extra "sf"
  exact ret _ _ _ (f.back t f3).1 (f.back t f3).2
 | str nv =>
  refine r_use (enter ["value", "kind"] [] [("is_number", .ref 298), ("kind_of", .ref 291), ("isinstance", .builtin "isinstance"), ("list", .type "list")] [("value", some (v)), ("kind", some (.str ("string" : Str) tk0))] hR f (f.take t) (by unfold K; k_is) (by unfold K; k_is) (BindsTo.of_eq rfl) rfl rfl (by decide) (by decide) (by decide) (Ga.all (.cons (gv_is_number) (.cons (gv_kind_of) (.cons (gv_isinstance) (.cons (gv_list) .nil))))) rfl rfl rfl (by decide) rfl ?_)
  intro env h2 tk2 ok f2 hR2
  k_extra "sf"
  try k_extra "eqs"
  k_extra "sf"
  try k_extra "eqs"
  k_extra "sf"
  try k_extra "eqs"
  k_extra "sf"
  k_extra "callk"
  k_extra "sf"
  k_extra "cKindStr"
  case nv => exact nv
  intro tn F3 h3 tk3 f3 l3
  k_extra "sf"
  try k_extra "eqs"
  k_extra "sf"
  exact ret _ _ _ (f.back t f3).1 (f.back t f3).2
 | @shown D us ps hD hus =>
  refine r_use (enter ["value", "kind"] [] [("is_number", .ref 298), ("kind_of", .ref 291), ("isinstance", .builtin "isinstance"), ("list", .type "list")] [("value", some (.ref D)), ("kind", some (.str ("shown" : Str) tk0))] hR f (f.take t) (by unfold K; k_is) (by unfold K; k_is) (BindsTo.of_eq rfl) rfl rfl (by decide) (by decide) (by decide) (Ga.all (.cons (gv_is_number) (.cons (gv_kind_of) (.cons (gv_isinstance) (.cons (gv_list) .nil))))) rfl rfl rfl (by decide) rfl ?_)
  intro env h2 tk2 ok f2 hR2
  k_extra "sf"
  try k_extra "eqs"
  k_extra "sf"
  try k_extra "eqs"
  k_extra "sf"
  try k_extra "eqs"
  k_extra "sf"
  k_extra "callb"
  k_extra "sf"
  k_extra "isi"
  k_extra "sf"
  refine r_comp (cl := []) rfl rfl (by decide) (fun _ => rfl) ?_
  k_extra "sf"
  refine iter_list (by assumption) (by k_extra "at") fun I h3 f3 o3 => ?_
  refine comp_goN (fun (j : Nat) (mu : Mu) (_ : Fz) => mu = ([] : Mu)) (Src.list (by k_extra "hd") hD (f3.mus.has (I, _) (.tail _ (.head _))).2) f3 o3 rfl (by decide) rfl rfl ?_ ?_
  ·rintro C i v mu4 F4 h4 tk4 hi hv rfl l4 cok D' f4
   have ok' := cok.ok [("is_number", .ref 298), ("kind_of", .ref 291)] ok rfl (by decide) (Ga.all (.cons (gv_is_number) (.cons (gv_kind_of) .nil)))
   obtain ⟨p, hp, kp⟩ := hus.at hv
   have kp := PartV.mono l4 kp
   cases p with
   | num x =>
    have nv : NumV F4 v x := kp
    k_extra "sf"
    k_extra "callk"
    k_extra "sf"
    k_extra "cIsnum"
    intro F5 h5 tk5 f5 l5
    k_extra "sf"
    exact ⟨rfl, _, F5, _, _, rfl, f5, l4.trans l5, rfl⟩
   | str l =>
    have nv : StrV F4 v l := kp
    k_extra "sf"
    k_extra "callk"
    k_extra "sf"
    k_extra "cIsnumS"
    case nv => exact nv
    intro F5 h5 tk5 f5 l5
    k_extra "sf"
    k_extra "callk"
    k_extra "sf"
    k_extra "cKindStr"
    case nv => exact nv.mono l5
    intro tn F6 h6 tk6 f6 l6
    k_extra "sf"
    try k_extra "eqs"
    k_extra "sf"
    exact ⟨rfl, _, F6, _, _, rfl, f6, l4.trans (l5.trans l6), rfl⟩
  ·rintro D' mu5 F5 F6 h6 tk6 rfl l5 l6 eD f6
   k_extra "sf"
   k_extra "mkl"
   intro D2 F7 h7 f7 l7 e7
   k_extra "eqL0"
   k_extra "sf"
   exact ret _ _ _ (f.back t f7).1 (f.back t f7).2
in #guard_msgs in open Nat
noncomputable def kindTab : List (Str × List Str) := [("BT", []), ("ET", []), ("T*", []), ("Tf", ["name", "number"]), ("Tm", ["number", "number", "number", "number", "number", "number"]), ("TJ", ["shown"]), ("Tc", ["number"]), ("Tw", ["number"]), ("Tz", ["number"]), ("TL", ["number"]), ("Tr", ["number"]), ("Ts", ["number"]),
  ("Td", ["number", "number"]), ("TD", ["number", "number"]), ("d0", ["number", "number"]), ("d1", ["number", "number", "number", "number", "number", "number"]), ("Tj", ["string"]), ("'", ["string"]), ("\"", ["number", "number", "string"])]
class inductive Sz : List Value → List Str → Prop
  | nil : Sz [] []
  | cons {x : Str} {t : Tok} {us : List Value} {ws : List Str} : Sz us ws → Sz (.str x t :: us) (x :: ws)
theorem Sz.ok {us : List Value} {ws : List Str} (h : Sz us ws) : us.length = ws.length ∧ ∀ (i : Nat) (w : Str), ws[i]? = some w → ∃ t, us[i]? = some (Value.str w t) := by
 induction h with
 | nil => exact ⟨rfl, fun i w e => by simp at e⟩
 | cons _ ih =>
  refine ⟨by rw [List.length_cons, List.length_cons, ih.1], fun i w e => ?_⟩
  cases i with
  | zero => simp at e; subst e; exact ⟨_, rfl⟩
  | succ i => simpa using ih.2 i w (by simpa using e)
in #guard_msgs in open Nat
inductive KiL (D : Addr) (ls : Fs) : Prop
  | mk (o) (e : ls = ([("found", some (.ref D)), ("word", o)] : Fs)) : KiL D ls
inductive JKi (D : Addr) (n i : Nat) (ls : Fs) (mu : Mu) (F' : Fz) : Prop
  | mk (a : KiL D ls) (kvs : List (Str × Value)) (em : mu = ([(D, dic (strKind prog w) kvs)] : Mu)) (k : KR F' kvs (kindTab.take (n + i))) : JKi D n i ls mu F'
inductive WdK (m m' : List (Str × List Str)) (x : List Str) (v : Value) : Prop
  | mk (wd tw) (e : v = Value.str wd tw) (e1 : m.any (fun kv => kv.1 == wd) = false) (e2 : m ++ [(wd, x)] = m') : WdK m m' x v
theorem c_kinds {Q : Value → Shared → Prop} (hR : Room 4 A) {b0 : Addr} {c0 : Cell} (f : Fm h₀ F₀ W ((b0, c0) :: mu) F h)
  (ret : ∀ D kvs F' h' tk', Fm h₀ F₀ W ((b0, c0) :: (D, dic (strKind prog w) kvs) :: mu) F' h' → Own h₀ W D → (D == sysModules) = false → KR F' kvs kindTab → Le F F' → Q (.ref D) ⟨h', g, d, tk', os⟩) : wpAny (model prog w) A (call (.ref 418) []) Q E ⟨h, g, d, tk, os⟩ := by
 have t : Tk [] [] ((b0, c0) :: mu) ((b0, c0) :: mu) := .nil
 refine r_use (enter [] ["found", "word"] [] [("found", none), ("word", none)] hR f (f.take t) (by unfold K; k_is) (by unfold K; k_is) (BindsTo.of_eq rfl) rfl rfl (by decide) (by decide) (by decide) (Ga.all .nil) rfl rfl rfl (by decide) rfl ?_)
 intro env h2 tk2 ok f2 hR2
 k_extra "sf"
 k_extra "dS"
 intro D h3 f3 o3 ns3
 k_extra "sf"
 k_extra "mkt"
 intro T1 F4 h4 f4 l4 e4
 k_extra "sf"
 k_extra "mkt"
 intro T2 F5 h5 f5 l5 e5
 k_extra "sf"
 k_extra "mkt"
 intro T3 F6 h6 f6 l6 e6
 k_extra "sf"
 k_extra "mkt"
 intro T4 F7 h7 f7 l7 e7
 k_extra "sf"
 k_extra "mkt"
 intro T5 F8 h8 f8 l8 e8
 k_extra "sf"
 k_extra "mulT"
 intro T6 F9 h9 f9 l9 e9
 k_extra "sf"
 k_extra "mkt"
 intro T7 F10 h10 f10 l10 e10
 k_extra "sf"
 k_extra "mkd"
 k_extra "sf"
 have kr0 : KR F10 [("BT", .ref T1), ("ET", .ref T2), ("T*", .ref T3), ("Tf", .ref T4), ("Tm", .ref T6), ("TJ", .ref T7)] (kindTab.take 6) := by
  refine' .cons ?a (Sz.ok ?a1) (.cons ?b (Sz.ok ?b1) (.cons ?c (Sz.ok ?c1) (.cons ?d (Sz.ok ?d1) (.cons ?e (Sz.ok ?e1) (.cons ?f (Sz.ok ?f1) .nil)))))
  case a => k_extra "fz"
  case b => k_extra "fz"
  case c => k_extra "fz"
  case d => k_extra "fz"
  case e => k_extra "fz"
  case f => k_extra "fz"
  all_goals k_extra "sz"
 k_extra "mkt"
 intro TWa Ga h1a f1a l1a e1a
 refine for_tuple (JKi D 6)
  (by k_extra "hd") e1a f1a ⟨⟨_, rfl⟩, _, rfl, kr0.mono l1a⟩ ?_ ?_ (fun I v => rfl)
 ·rintro I i v ls' mu' F20 h20 tk20 hi hv ⟨⟨o, rfl⟩, kvs, rfl, kr⟩ l20 f20
  have kl := kr.len
  have hi' : i < 6 := hi
  obtain ⟨wd, tw, rfl, e1, e2⟩ : WdK (kindTab.take (6 + i)) (kindTab.take (6 + (i + 1))) ["number"] v := by
   have : i = 0 ∨ i = 1 ∨ i = 2 ∨ i = 3 ∨ i = 4 ∨ i = 5 := by k_extra "om"
   rcases this with rfl | rfl | rfl | rfl | rfl | rfl <;> (cases hv; exact ⟨_, _, rfl, rfl, rfl⟩)
  clear hv
  k_extra "sf"
  k_extra "mkt"
  intro T' F21 h21 f21 l21 e21
  k_extra "sf"
  k_extra "setK"
  case hx => rw [kr.any]; exact e1
  case hz => rw [kl]; exact Nat.le_trans (List.length_take_le ..) (by k_extra "om")
  k_extra "sf"
  rename Fm h _ _ _ _ _ => fe
  exact ⟨_, _, _, _, _, rfl, fe, l20.trans l21, ⟨_, rfl⟩, _, rfl, e2 ▸ (kr.mono l21).snoc e21 (Sz.ok (by k_extra "sz"))⟩
 rintro ls' mu' F30 h30 tk30 ⟨⟨o, rfl⟩, kvsa, rfl, kra⟩ l30 f30
 k_extra "sf"
 k_extra "mkt"
 intro TWb Gb h1b f1b l1b e1b
 refine for_tuple (JKi D 12)
  (by k_extra "hd") e1b f1b ⟨⟨_, rfl⟩, _, rfl, kra.mono l1b⟩ ?_ ?_ (fun I v => rfl)
 ·rintro I i v ls' mu' F20 h20 tk20 hi hv ⟨⟨o, rfl⟩, kvs, rfl, kr⟩ l20 f20
  have kl := kr.len
  have hi' : i < 3 := hi
  obtain ⟨wd, tw, rfl, e1, e2⟩ : WdK (kindTab.take (12 + i)) (kindTab.take (12 + (i + 1))) ["number", "number"] v := by
   have : i = 0 ∨ i = 1 ∨ i = 2 := by k_extra "om"
   rcases this with rfl | rfl | rfl <;> (cases hv; exact ⟨_, _, rfl, rfl, rfl⟩)
  clear hv
  k_extra "sf"
  k_extra "mkt"
  intro T' F21 h21 f21 l21 e21
  k_extra "sf"
  k_extra "mulT"
  intro T2 F22 h22 f22 l22 e22
  k_extra "sf"
  k_extra "setK"
  case hx => rw [kr.any]; exact e1
  case hz => rw [kl]; exact Nat.le_trans (List.length_take_le ..) (by k_extra "om")
  k_extra "sf"
  rename Fm h _ _ _ _ _ => fe
  exact ⟨_, _, _, _, _, rfl, fe, l20.trans (l21.trans l22), ⟨_, rfl⟩, _, rfl, e2 ▸ (kr.mono (l21.trans l22)).snoc e22 (Sz.ok (by k_extra "sz"))⟩
 rintro ls' mu' F31 h31 tk31 ⟨⟨o, rfl⟩, kvsb, rfl, krb⟩ l31 f31
 have klb := krb.len
 k_extra "sf"
 k_extra "mkt"
 intro T8 F32 h32 f32 l32 e32
 k_extra "sf"
 k_extra "mulT"
 intro T9 F33 h33 f33 l33 e33
 k_extra "sf"
 k_extra "setK"
 case hx => rw [krb.any]; rfl
 case hz => rw [klb]; exact Nat.le_of_ble_eq_true rfl
 have krb2 : KR F33 (kvsb ++ [(("d1" : Str), Value.ref T9)]) (kindTab.take 16) := (krb.mono (l32.trans l33)).snoc e33 (Sz.ok (by k_extra "sz"))
 k_extra "sf"
 k_extra "mkt"
 intro TWc Gc h1c f1c l1c e1c
 refine for_tuple (JKi D 16)
  (by k_extra "hd") e1c f1c ⟨⟨_, rfl⟩, _, rfl, krb2.mono l1c⟩ ?_ ?_ (fun I v => rfl)
 ·rintro I i v ls' mu' F20 h20 tk20 hi hv ⟨⟨o, rfl⟩, kvs, rfl, kr⟩ l20 f20
  have kl := kr.len
  have hi' : i < 2 := hi
  obtain ⟨wd, tw, rfl, e1, e2⟩ : WdK (kindTab.take (16 + i)) (kindTab.take (16 + (i + 1))) ["string"] v := by
   have : i = 0 ∨ i = 1 := by k_extra "om"
   rcases this with rfl | rfl <;> (cases hv; exact ⟨_, _, rfl, rfl, rfl⟩)
  clear hv
  k_extra "sf"
  k_extra "mkt"
  intro T' F21 h21 f21 l21 e21
  k_extra "sf"
  k_extra "setK"
  case hx => rw [kr.any]; exact e1
  case hz => rw [kl]; exact Nat.le_trans (List.length_take_le ..) (by k_extra "om")
  k_extra "sf"
  rename Fm h _ _ _ _ _ => fe
  exact ⟨_, _, _, _, _, rfl, fe, l20.trans l21, ⟨_, rfl⟩, _, rfl, e2 ▸ (kr.mono l21).snoc e21 (Sz.ok (by k_extra "sz"))⟩
 rintro ls' mu' F40 h40 tk40 ⟨⟨o, rfl⟩, kvsc, rfl, krc⟩ l40 f40
 have klc := krc.len
 k_extra "sf"
 k_extra "mkt"
 intro T10 F41 h41 f41 l41 e41
 k_extra "sf"
 k_extra "setK"
 case hx => rw [krc.any]; rfl
 case hz => rw [klc]; exact Nat.le_of_ble_eq_true rfl
 have krd : KR F41 (kvsc ++ [(("\"" : Str), Value.ref T10)]) kindTab := (krc.mono l41).snoc e41 (Sz.ok (by k_extra "sz"))
 k_extra "sf"
 rename Fm h F _ _ _ _ => fe
 obtain ⟨fr, lr, orr⟩ := f.back1 t fe o3.h0
 exact ret _ _ _ _ _ fr orr ns3 krd lr
in #guard_msgs in open Nat
end
noncomputable def kindsOf : Op → Option (List Str)
  | .Tc _ => some ["number"] | .Tw _ => some ["number"] | .Tz _ => some ["number"] | .TL _ => some ["number"] | .Ts _ => some ["number"]
  | .Tf _ _ => some ["name", "number"] | .Td _ _ => some ["number", "number"] | .TD _ _ => some ["number", "number"] | .Tst => some []
  | .Tm _ => some ["number", "number", "number", "number", "number", "number"] | .Tj _ => some ["string"] | .TJ _ => some ["shown"] | .q1 _ => some ["string"] | .q2 _ _ _ => some ["number", "number", "string"]
  | .q => none | .Q => none | .cm _ => some ["number", "number", "number", "number", "number", "number"] | .BT => some [] | .ET => some []
noncomputable def kindAll : List (Str × List Str) := kindTab ++ ([("cm", ["number", "number", "number", "number", "number", "number"]), ("Do", ["name"])] : List (Str × List Str))
theorem kinds_at (o : Op) : kindAll.lookup (opWord o) = kindsOf o := by cases o <;> rfl
class inductive Fs2 (F : Fz) : List Value → List Str → Prop
  | nil : Fs2 F [] []
  | cons {v : Value} {k : Str} {vs : List Value} {ks : List Str} : Fits F v k → Fs2 F vs ks → Fs2 F (v :: vs) (k :: ks)
theorem Fs2.len {F : Fz} {vs : List Value} {ks : List Str} (h : Fs2 F vs ks) : vs.length = ks.length := by
 induction h with
 | nil => rfl
 | cons _ _ ih => rw [List.length_cons, List.length_cons, ih] in
theorem Fs2.at {F : Fz} {vs : List Value} {ks : List Str} (h : Fs2 F vs ks) : ∀ {i : Nat} {k : Str}, ks[i]? = some k → ∃ v, vs[i]? = some v ∧ Fits F v k := by
 induction h with
 | nil => intro i k e; simp at e
 | cons r _ ih =>
  intro i k e
  cases i with
  | zero => simp at e; subst e; exact ⟨_, rfl, r⟩
  | succ i => simpa using ih (i := i) (by simpa using e)
in #guard_msgs in open Nat
theorem six_fits {F : Fz} {vs : List Value} {m : M6} (h : SixV F vs m) : Fs2 F vs ["number", "number", "number", "number", "number", "number"] := by
 obtain ⟨a, b, c, d, e, f, rfl, h0, h1, h2, h3, h4, h5⟩ := h
 exact .cons (.num h0) (.cons (.num h1) (.cons (.num h2) (.cons (.num h3) (.cons (.num h4) (.cons (.num h5) .nil)))))
in #guard_msgs in open Nat
theorem ArgsV.fits {F : Fz} {vs : List Value} {o : Op} (h : ArgsV F vs o) {ks : List Str} (e : kindsOf o = some ks) : Fs2 F vs ks := by
 have one : ∀ {x : Rat}, (∃ v, vs = [v] ∧ NumV F v x) → Fs2 F vs ["number"] := fun h => let ⟨v, e, n⟩ := h; e ▸ .cons (.num n) .nil
 have two : ∀ {x y : Rat}, (∃ u v, vs = [u, v] ∧ NumV F u x ∧ NumV F v y) → Fs2 F vs ["number", "number"] := fun h => let ⟨u, v, e, n, m⟩ := h; e ▸ .cons (.num n) (.cons (.num m) .nil)
 have str : ∀ {l : List Int}, (∃ v, vs = [v] ∧ StrV F v l) → Fs2 F vs ["string"] := fun h => let ⟨v, e, n⟩ := h; e ▸ .cons (.str n) .nil
 have nil : vs = [] → Fs2 F vs [] := fun h => h ▸ .nil
 cases o with
 | Tc x => cases e; exact one h
 | Tw x => cases e; exact one h
 | Tz x => cases e; exact one h
 | TL x => cases e; exact one h
 | Ts x => cases e; exact one h
 | Tf b x => cases e; exact let ⟨u, v, e, n, m⟩ := h; e ▸ .cons (.name n) (.cons (.num m) .nil)
 | Td x y => cases e; exact two h
 | TD x y => cases e; exact two h
 | Tm m => cases e; exact six_fits h
 | cm m => cases e; exact six_fits h
 | Tj l => cases e; exact str h
 | q1 l => cases e; exact str h
 | TJ l => cases e; exact let ⟨D, us, e, n, k⟩ := h; e ▸ .cons (.shown n k) .nil
 | q2 x y l => cases e; exact let ⟨u, v, s, e, n, m, k⟩ := h; e ▸ .cons (.num n) (.cons (.num m) (.cons (.str k) .nil))
 | Tst => cases e; exact nil h
 | BT => cases e; exact nil h
 | ET => cases e; exact nil h
 | q => cases e
 | Q => cases e
in #guard_msgs in open Nat
section
variable {A : Around} {h₀ h : Heap} {F₀ F : Fz} {W : List Addr} {mu mu' : Mu} {tk : Nat}
theorem c_check {D : Addr} {kvs : List (Str × Value)} {v : Value} {o : Op} {Q : Value → Shared → Prop} (hR : Room 12 A) (f : Fm h₀ F₀ W mu F h) (t : Tk [(D, dic (strKind prog w) kvs)] [(D, dic (strKind prog w) kvs)] mu mu) (ns : (D == sysModules) = false) (kr : KR F kvs kindAll) (hv : OpV F v o)
  (ret : ∀ F' h' tk', Fm h₀ F₀ W mu F' h' → Le F F' → Q .none ⟨h', g, d, tk', os⟩) : wpAny (model prog w) A (call (.ref 537) [.ref D, v]) Q E ⟨h, g, d, tk, os⟩ := by
 obtain ⟨a, da, lo, tw, vs, rfl, ha, hda, hlo, hargs⟩ := hv
 refine r_use (enter ["kinds", "operation"] ["wanted", "at"] [("len", .builtin "len"), ("range", .type "range"), ("fits_kind", .ref 423)] [("kinds", some (.ref D)), ("operation", some (.ref a)), ("wanted", none), ("at", none)] hR f (f.take t) (by unfold K; k_is) (by unfold K; k_is) (BindsTo.of_eq rfl) rfl rfl (by decide) (by decide) (by decide) (Ga.all (.cons (gv_len) (.cons (gv_range) (.cons (gv_fits_kind) .nil)))) rfl rfl rfl (by decide) rfl ?_)
 intro env h2 tk2 ok f2 hR2
 cases hk : kindsOf o with
 | none =>
  have hn := kr.no ((kinds_at o).trans hk)
  k_extra "sf"
  k_extra "ninD"
  case b => exact false
  case hb => rw [hn]; rfl
  intro tk3
  k_extra "sf"
  exact ret _ _ _ (f.back t f2).1 (f.back t f2).2
 | some ks =>
  obtain ⟨T, us, hy, hT, hl, hs⟩ := kr.yes ((kinds_at o).trans hk)
  have fs := hargs.fits hk
  k_extra "sf"
  k_extra "ninD"
  case b => exact true
  case hb => rw [hy]; rfl
  intro tk3
  k_extra "sf"
  k_extra "itDv"
  case hx => exact hy
  intro tk4
  k_extra "sf"
  k_extra "callb"
  k_extra "sf"
  have lv : vs.length = us.length := fs.len.trans hl.symm
  have lk : vs.length ≤ 6 := by rw [fs.len]; cases o <;> cases hk <;> decide
  k_extra "len"
  k_extra "sf"
  k_extra "callb"
  k_extra "sf"
  k_extra "len"
  k_extra "sf"
  refine ite_f (by rw [lv]; simp) ?_
  k_extra "sf"
  k_extra "callb"
  k_extra "sf"
  k_extra "callb"
  k_extra "sf"
  k_extra "len"
  k_extra "sf"
  k_extra "rng"
  intro R F5 h5 tk5 f5 l5 e5
  rw [show (us.length : Int) = 0 + (us.length : Nat) from (Int.zero_add _).symm] at e5
  refine for_range (n := us.length) (a := 0) (fun (i : Nat) (ls : Fs) (mu : Mu) (F' : Fz) => (∃ o, ls = ([("kinds", some (.ref D)), ("operation", some (.ref a)), ("wanted", some (.ref T)), ("at", o)] : Fs)) ∧ mu = ([(D, dic (strKind prog w) kvs)] : Mu))
   (by k_extra "hd") e5 (by decide) (by k_extra "om") f5 ⟨⟨_, rfl⟩, rfl⟩ ?_ ?_ (fun I v => rfl)
  ·rintro I i ti ls' mu' F6 h6 tk6 hi ⟨⟨o', rfl⟩, rfl⟩ l6 f6
   have hi' : i < ks.length := by k_extra "om"
   obtain ⟨tw', hw⟩ := hs i _ (List.getElem?_eq_getElem hi')
   obtain ⟨v, ev, fv⟩ := fs.at (List.getElem?_eq_getElem hi')
   k_extra "sf"
   k_extra "callk"
   k_extra "sf"
   k_extra "itm?"
   case h0 => k_extra "om"
   case hk => k_extra "om"
   case hx => exact (by rw [show (0 + (i : Int)).toNat = i by k_extra "om"]; exact ev)
   k_extra "sf"
   k_extra "itm?"
   case h0 => k_extra "om"
   case hk => k_extra "om"
   case hx => exact (by rw [show (0 + (i : Int)).toNat = i by k_extra "om"]; exact hw)
   k_extra "sf"
   k_extra "cFits"
   case fv => exact fv.mono (l5.trans l6)
   intro F7 h7 tk7 f7 l7
   k_extra "sf"
   exact ⟨_, _, F7, _, _, rfl, f7, l6.trans l7, ⟨_, rfl⟩, rfl⟩
  ·rintro ls' mu' F6 h6 tk6 ⟨⟨o', rfl⟩, rfl⟩ l6 f6
   k_extra "sf"
   exact ret _ _ _ (f.back t f6).1 (f.back t f6).2
in #guard_msgs in open Nat
end
theorem Sl.det {fs a b : Fs} {x : Str} {v : Value} (h : Sl fs x v a) (k : Sl fs x v b) (nd : (fs.map (·.1)).Nodup) : a = b := by
 induction h generalizing b with
 | head =>
  cases k with
  | head => rfl
  | tail k => exact absurd k.here (List.nodup_cons.mp nd).1
 | tail h ih =>
  cases k with
  | head => exact absurd h.here (List.nodup_cons.mp nd).1
  | tail k => rw [ih k (List.nodup_cons.mp nd).2]
in #guard_msgs in open Nat
noncomputable def NoE (us : List Value) : Prop := ∀ v ∈ us, ∃ x t, v = Value.str x t ∧ ((x == ("" : Str)) = false)
theorem NoE.ss {us : List Value} (h : NoE us) : Ss us := by
 induction us with
 | nil => exact .nil
 | cons v us ih =>
  obtain ⟨x, t, rfl, _⟩ := h v (.head _)
  exact .cons (ih fun u hu => h u (.tail _ hu)) in
theorem NoE.no {us : List Value} (h : NoE us) : us.any (isS "") = false := by
 rw [List.any_eq_false]
 intro v hv
 obtain ⟨x, t, rfl, e⟩ := h v hv
 show ¬ (x == ("" : Str)) = true
 rw [e]; exact Bool.false_ne_true
in #guard_msgs in open Nat
theorem NoE.app {us vs : List Value} (h : NoE us) (k : NoE vs) : NoE (us ++ vs) := fun v hv => (List.mem_append.mp hv).elim (h v) (k v) in
theorem NoE.one {x : Str} {t : Tok} (h : (x == ("" : Str)) = false) : NoE [.str x t] := fun v hv => by rw [List.mem_singleton.mp hv]; exact ⟨x, t, rfl, h⟩ in
theorem NoE.nil : NoE [] := fun _ h => nomatch h
in #guard_msgs in open Nat
theorem ne_len {x : Str} (h : x.length ≠ 0) : (x == ("" : Str)) = false := beq_eq_false_iff_ne.mpr fun e => h (by rw [e]; rfl) in
theorem from_mem : ∀ {n : Nat} {l : List Str} {v : Value}, v ∈ strsFrom n l → ∃ x ∈ l, ∃ t, v = Value.str x t
 | _, [], _, h => nomatch h
 | n, x :: l, v, h => by
  rcases List.mem_cons.mp (show v ∈ Value.str x n :: strsFrom (n + 1) l from h) with rfl | h
  ·exact ⟨x, .head _, n, rfl⟩
  ·obtain ⟨y, hy, t, e⟩ := from_mem h
   exact ⟨y, .tail _ hy, t, e⟩
in #guard_msgs in open Nat
theorem NoE.from {n : Nat} {l : List Str} (h : (l.all fun y => y.length != 0) = true) : NoE (strsFrom n l) := fun v hv => by
 obtain ⟨x, hx, t, rfl⟩ := from_mem hv
 have := List.all_eq_true.mp h x hx
 exact ⟨x, t, rfl, ne_len (by simpa using this)⟩ in
theorem from_len : ∀ (n : Nat) (l : List Str), (strsFrom n l).length = l.length
 | _, [] => rfl
 | n, x :: l => by show (strsFrom (n + 1) l).length + 1 = l.length + 1; rw [from_len]
in #guard_msgs in open Nat
section
variable {A : Around} {h₀ h : Heap} {F₀ F : Fz} {W : List Addr} {mu mu' : Mu} {tk : Nat}
theorem r_words {x : Str} {t : Tok} {m : Nat} {Q : Value → Shared → Prop} (f : Fm h₀ F₀ W mu F h) (hx : x.length ≤ 1000) (hl : (KWd.fin (KWd.scan x)).length = m) (h1 : m ≠ 1) (h2 : m ≤ 1000)
  (q : ∀ D n F' h' tk', Fm h₀ F₀ W mu F' h' → Le F F' → F' D = some (lst (strsFrom n (KWd.fin (KWd.scan x)))) → Q (.ref D) ⟨h', g, d, tk', os⟩) : wpAny (model prog w) A (call (.builtin "str.split") [.str x t]) Q E ⟨h, g, d, tk, os⟩ := by
 have e : PySem.wordsOf x = KWd.fin (KWd.scan x) := KWd.wordsOf_scan x
 have el : (Builtin.Str.spaceWords x (x.length + 1)).length = m := by rw [← hl, ← e]; unfold PySem.wordsOf; rw [List.length_map]
 refine r_splitW f hx (by k_extra "om") (beq_eq_false_iff_ne.mpr fun z => h1 (by rw [← el, z]; rfl)) ?_
 rw [e]; exact q
in #guard_msgs in open Nat
end
section
variable {A : Around} {h₀ h : Heap} {F₀ F : Fz} {W : List Addr} {mu mu' : Mu} {tk : Nat}
theorem c_ascii {Q : Value → Shared → Prop} (hR : Room 4 A) (f : Fm h₀ F₀ W mu F h)
  (ret : ∀ D us F' h' tk', F' D = some (lst us) → NoE us → us.length ≤ 200 → Fm h₀ F₀ W mu F' h' → Le F F' → Q (.ref D) ⟨h', g, d, tk', os⟩) : wpAny (model prog w) A (call (.ref 694) []) Q E ⟨h, g, d, tk, os⟩ := by
 have t : Tk [] [] mu mu := .nil
 refine r_use (enter [] ["capitals", "smalls"] [("range", .type "range"), ("LOW_NAMES", .str lowT 1148), ("MIDDLE_NAMES", .str midT 1150), ("HIGH_NAMES", .str highT 1152)] [("capitals", none), ("smalls", none)] hR f (f.take t) (by unfold K; k_is) (by unfold K; k_is) (BindsTo.of_eq rfl) rfl rfl (by decide) (by decide) (by decide) (Ga.all (.cons (gv_range) (.cons (gv_LOW_NAMES) (.cons (gv_MIDDLE_NAMES) (.cons (gv_HIGH_NAMES) .nil))))) rfl rfl rfl (by decide) rfl ?_)
 intro env h2 tk2 ok f2 hR2
 refine x_acomp (cl := []) ok (by assumption) ⟨_, .head _⟩ rfl (by decide) rfl rfl (by decide) (fun _ => rfl) ?_
 k_extra "sf"
 k_extra "callb"
 k_extra "sf"
 k_extra "rng"
 intro Ra F3a h3 tk3 f3 l3a e3
 refine iter_range (a := 65) (n := 26) f3 e3 (by decide) (by decide) fun I h4 f4 o4 => ?_
 refine comp_goAK (fun (i : Nat) (vs : List Value) (_ : Fz) => NoE vs) ok (Src.range (by k_extra "hd")) f4 o4 .nil (by decide) (by decide) rfl rfl ?_ ?_ (fun v => ⟨_, .head⟩)
 ·rintro C i v vs F5 h5 tk5 hi ⟨tv, rfl⟩ hl hn l5 cok D f5
  have ok' := cok.ok [("chr", .builtin "chr")] ok rfl (by decide) (Ga.all (.cons (gv_chr) .nil))
  k_extra "sf"
  k_extra "callb"
  k_extra "sf"
  k_extra "chr"
  case h0 => k_extra "om"
  case h1 => k_extra "om"
  exact ⟨F5, _, _, rfl, f5, l5, hn.app (.one (ne_len (by decide : (1 : Nat) ≠ 0)))⟩
 rintro Da usa F5a F6a h6 tk6 hula hna l5a l6a eDa ls' hs f6a
 obtain rfl := hs.det .head (of_decide_eq_true rfl)
 clear hs
 refine x_acomp (cl := []) ok (by assumption) ⟨_, .tail _ (.head _)⟩ rfl (by decide) rfl rfl (by decide) (fun _ => rfl) ?_
 k_extra "sf"
 k_extra "callb"
 k_extra "sf"
 k_extra "rng"
 intro Rb F3b h3 tk3 f3 l3b e3
 refine iter_range (a := 97) (n := 26) f3 e3 (by decide) (by decide) fun I h4 f4 o4 => ?_
 refine comp_goAK (fun (i : Nat) (vs : List Value) (_ : Fz) => NoE vs) ok (Src.range (by k_extra "hd")) f4 o4 .nil (by decide) (by decide) rfl rfl ?_ ?_ (fun v => ⟨_, (.tail .head)⟩)
 ·rintro C i v vs F5 h5 tk5 hi ⟨tv, rfl⟩ hl hn l5 cok D f5
  have ok' := cok.ok [("chr", .builtin "chr")] ok rfl (by decide) (Ga.all (.cons (gv_chr) .nil))
  k_extra "sf"
  k_extra "callb"
  k_extra "sf"
  k_extra "chr"
  case h0 => k_extra "om"
  case h1 => k_extra "om"
  exact ⟨F5, _, _, rfl, f5, l5, hn.app (.one (ne_len (by decide : (1 : Nat) ≠ 0)))⟩
 rintro Db usb F5b F6b h6 tk6 hulb hnb l5b l6b eDb ls' hs f6b
 obtain rfl := hs.det (.tail .head) (of_decide_eq_true rfl)
 clear hs
 k_extra "sf"
 k_extra "gmS"
 k_extra "sf"
 k_extra "wds"
 case hx => exact lowZ
 case hl => exact lowL
 case h1 => decide
 case h2 => decide
 intro D7 n7 F7 h7 tk7 f7 l7 e7
 k_extra "sf"
 k_extra "addL"
 case hz => rw [from_len, lowL, hula]; decide
 intro D8 F8 h8 f8 l8 e8
 k_extra "sf"
 k_extra "gmS"
 k_extra "sf"
 k_extra "wds"
 case hx => exact midZ
 case hl => exact midL
 case h1 => decide
 case h2 => decide
 intro D9 n9 F9 h9 tk9 f9 l9 e9
 k_extra "sf"
 k_extra "addL"
 case hz => rw [List.length_append, from_len, from_len, lowL, midL, hula]; decide
 intro D10 F10 h10 f10 l10 e10
 k_extra "sf"
 k_extra "addL"
 case hz => rw [List.length_append, List.length_append, from_len, from_len, lowL, midL, hula, hulb]; decide
 intro D11 F11 h11 f11 l11 e11
 k_extra "sf"
 k_extra "gmS"
 k_extra "sf"
 k_extra "wds"
 case hx => exact highZ
 case hl => exact highL
 case h1 => decide
 case h2 => decide
 intro D12 n12 F12 h12 tk12 f12 l12 e12
 k_extra "sf"
 k_extra "addL"
 case hz => rw [List.length_append, List.length_append, List.length_append, from_len, from_len, from_len, lowL, midL, highL, hula, hulb]; decide
 intro D13 F13 h13 f13 l13 e13
 k_extra "sf"
 refine ret D13 _ F13 _ _ e13 ((((NoE.from lowW).app hna).app (.from midW)).app hnb |>.app (.from highW)) ?_ (f.back t f13).1 (f.back t f13).2
 rw [List.length_append, List.length_append, List.length_append, List.length_append, from_len, from_len, from_len, lowL, midL, highL, hula, hulb]; decide
in #guard_msgs in open Nat
end
section
variable {A : Around} {env : Env} {gt : Gt} {h₀ h : Heap} {F₀ F : Fz} {W : List Addr} {mu : Mu} {ls : Fs} {tk : Nat}
theorem r_setL {l : Addr} {vs : List Value} {k : Int} {u : Tok} {v : Value} {mu' : Mu} {Q : Unit → Shared → Prop} (f : Fm h₀ F₀ W mu F h) (hl : (l, lst vs) ∈ mu) (h0 : 0 ≤ k) (hk : k < vs.length) (hk' : k < 2 ^ 63) (u' : Up l (lst (vs.set k.toNat v)) mu mu')
  (q : ∀ h', Fm h₀ F₀ W mu' F h' → Q () ⟨h', g, d, tk, os⟩) : wpAny (model prog w) A (setItem (.ref l) (.int k u) v) Q E ⟨h, g, d, tk, os⟩ := by
 obtain ⟨o, e, n, z⟩ := (f.mus.has _ hl).1
 subst z
 refine ki_setAt (n := n) e h0 hk' (by simpa using hk) (q _ (f.turn u' (fun b o nb eb => ((Heap.SameBut.update ..).2 b nb).trans eb) ⟨_, Heap.get?_update_self _ e rfl, ?_⟩))
 refine ⟨if ((vs.toArray.setIfInBounds k.toNat v).size == vs.toArray.size) = true then n else n + 1, ?_⟩
 show Obj.mapSeq _ _ = _
 unfold Obj.mapSeq
 simp
in #guard_msgs in open Nat
theorem comp_goM {elt iter : Expr} {x y : Str} {px py : Pos} {scope : Scope} {pos : Pos} {cl : List (Str × Addr)} {I : Addr} {n : Nat} {P : Nat → Value → Prop} {c : Nat → Cell} {Q : Value → Shared → Prop} (J : Nat → List Value → Mu → Fz → Prop) (e : EnvOk env gt)
  (S : Src prog w A F I n P c) (f : Fm h₀ F₀ W ((env.locals, frm env ls) :: (I, c 0) :: mu) F h) (hI : Own h₀ W I) (j0 : J 0 [] mu F) (hn : n ≤ 1000)
  (hcell : (scope.names.all fun y => y.2 != .cell) = true) (hk : scope.kind = .function) (hx : scope.names.lookup x = some .local)
  (turn : ∀ C i v vs mu' F' h' tk', i < n → P i v → vs.length = i → J i vs mu' F' → Le F F' → CompOk scope cl env (compE scope cl C env) →
   (∀ D, Fm h₀ F₀ W (((compE scope cl C env).locals, frm (compE scope cl C env) [(x, some v)]) :: (D, lst vs) :: (I, c (i + 1)) :: (env.locals, frm env ls) :: mu') F' h' →
   wpAny (model prog w) A (eval elt (compE scope cl C env)) (fun y s₃ => Cv h₀ F₀ W ((compE scope cl C env).locals, frm (compE scope cl C env) [(x, some v)]) (D, lst vs) (I, c (i + 1)) (env.locals, frm env ls) F (J (i + 1) (vs ++ [y])) s₃) E ⟨h', g, d, tk', os⟩))
  (done : ∀ D vs mu' F' h' tk', vs.length = n → J n vs mu' F' → Le F F' → Own h₀ W D → (∀ ls', Sl ls y (.ref D) ls' → Fm h₀ F₀ W ((env.locals, frm env ls') :: (D, lst vs) :: mu') F' h' → Q .none ⟨h', g, d, tk', os⟩))
  (hy : ∀ v, ∃ ls', Sl ls y v ls') :
  CompGo (model prog w) A E env (.ListComp elt [⟨.Name x px, iter, [], 0⟩] scope pos) scope cl (some (assign (.Name y py) env)) Q (.ref I) ⟨h, g, d, tk, os⟩ := by
 refine comp_core J S f hI j0 hn hcell hk hx turn fun C D vs xo mu' F' h' tk' hl j le oC oD f₁ => ?_
 obtain ⟨ls', hs⟩ := hy (.ref D)
 refine wpAny_assign_Name (r_store e f₁.rot3 hs fun h₂ tk₂ f₃ => ?_)
 have f₄ := f₃.swap
 refine ⟨_, dct_ns (frm_dct (f₄.mus.has _ (.head _)).1), fun h'' sb => ?_⟩
 have f₅ := f₄.lose (h' := h'') .head (fun b o nb eb => (sb.2 b nb).trans eb) oC.h0 oC.nw
 exact done D vs mu' F' h'' tk₂ hl j le oD ls' hs f₅
in #guard_msgs in open Nat
end
theorem NoE.set {us : List Value} (h : NoE us) {k : Nat} {x : Str} {t : Tok} (e : (x == ("" : Str)) = false) : NoE (us.set k (.str x t)) := fun v hv => by
 rcases List.mem_or_eq_of_mem_set hv with q | q
 ·exact h v q
 ·exact ⟨x, t, q, e⟩
in #guard_msgs in open Nat
section
variable {A : Around} {h₀ h : Heap} {F₀ F : Fz} {W : List Addr} {mu mu' : Mu} {tk : Nat}
theorem from_drop : ∀ (k n : Nat) (l : List Str), (strsFrom n l).drop k = strsFrom (n + k) (l.drop k)
 | 0, n, l => rfl
 | k + 1, n, [] => rfl
 | k + 1, n, x :: l => by show (strsFrom (n + 1) l).drop k = _; rw [from_drop k]; congr 1; k_extra "om" in
theorem c_latin {Q : Value → Shared → Prop} (hR : Room 4 A) (f : Fm h₀ F₀ W mu F h)
  (ret : ∀ D us F' h' tk', F' D = some (lst us) → NoE us → us.length ≤ 200 → Fm h₀ F₀ W mu F' h' → Le F F' → Q (.ref D) ⟨h', g, d, tk', os⟩) : wpAny (model prog w) A (call (.ref 699) []) Q E ⟨h, g, d, tk, os⟩ := by
 have t : Tk [] [] mu mu := .nil
 refine r_use (enter [] ["names", "smalls"] [("LATIN_NAMES", .str latT 1154)] [("names", none), ("smalls", none)] hR f (f.take t) (by unfold K; k_is) (by unfold K; k_is) (BindsTo.of_eq rfl) rfl rfl (by decide) (by decide) (by decide) (Ga.all (.cons (gv_LATIN_NAMES) .nil)) rfl rfl rfl (by decide) rfl ?_)
 intro env h2 tk2 ok f2 hR2
 k_extra "sf"
 k_extra "gmS"
 k_extra "sf"
 k_extra "wds"
 case hx => exact latZ
 case hl => exact latL
 case h1 => decide
 case h2 => decide
 intro D3 n3 F3 h3 tk3 f3 l3 e3
 k_extra "sf"
 have ll : (strsFrom n3 (KWd.fin (KWd.scan latT))).length = 63 := by rw [from_len, latL]
 have hl0 := NoE.from (n := n3) latW
 refine x_acomp (cl := []) ok (by assumption) ⟨_, .tail _ (.head _)⟩ rfl (by decide) rfl rfl (by decide) (fun _ => rfl) ?_
 refine r_sliceL2 ?_ (fun _ _ => rfl)
 k_extra "sf"
 refine cutL (us := ((strsFrom n3 (KWd.fin (KWd.scan latT))).drop 31).take 31) (by assumption) (by k_extra "at") (by k_extra "om") (by rw [slicePick_plain]; simp [clipAt, ll]; rfl) fun D4 F4 h4 tk4 f4 l4 e4 => ?_
 refine iter_list (by assumption) (by k_extra "at") fun I h5 f5 o5 => ?_
 have l31 : (((strsFrom n3 (KWd.fin (KWd.scan latT))).drop 31).take 31).length = 31 := by rw [List.length_take, List.length_drop, ll]; rfl
 refine comp_goM (fun (i : Nat) (vs : List Value) (mu : Mu) (_ : Fz) => mu = ([] : Mu) ∧ NoE vs) ok (Src.list (by k_extra "hd") e4 (f5.mus.has (I, _) (.tail _ (.head _))).2) f5 o5 ⟨rfl, .nil⟩ (by k_extra "om") (by decide) rfl rfl ?_ ?_ (fun v => ⟨_, (.tail .head)⟩)
 ·rintro C i v vs mu' F6 h6 tk6 hi hv hl ⟨rfl, hn⟩ l6 cok D f6
  have ok' := cok.ok [] ok rfl (by decide) (Ga.all .nil)
  have hm := List.mem_of_mem_take (List.mem_of_getElem? hv)
  rw [from_drop] at hm
  obtain ⟨x, hx, tx, rfl⟩ := from_mem hm
  have hq := List.all_eq_true.mp latN x hx
  rw [Bool.and_eq_true] at hq
  k_extra "sf"
  k_extra "gmS"
  k_extra "sf"
  refine r_lower (Nat.le_trans (of_decide_eq_true hq.2) (by decide)) fun tl tkl => ?_
  refine ⟨_, F6, _, _, rfl, f6, l6, rfl, hn.app (.one (ne_len ?_))⟩
  intro z
  have : (PySem.placed x fun i _ => Unicode.lowerAt x.cps i) = #[] := Array.eq_empty_of_size_eq_zero z
  rw [this] at hq
  exact absurd hq.1 (by decide)
 ·rintro D us mu' F6 h6 tk6 hul ⟨rfl, hn⟩ l6 oD ls' hs f6
  obtain rfl := hs.det (.tail .head) (of_decide_eq_true rfl)
  clear hs
  rw [l31] at hul
  k_extra "sf"
  k_extra "setL"
  case hk => rw [hul]; decide
  k_extra "sf"
  k_extra "addL"
  case hz => rw [List.length_set, ll, hul]; decide
  intro D7 F7 h7 f7 l7 e7
  k_extra "sf"
  k_extra "mkl"
  intro D8 F8 h8 f8 l8 e8
  k_extra "addL"
  case hz => rw [List.length_append, List.length_set, ll, hul]; exact Nat.le_of_ble_eq_true rfl
  intro D9 F9 h9 f9 l9 e9
  k_extra "sf"
  refine ret D9 _ F9 _ _ e9 ((hl0.app (hn.set ?_)).app (.one ?_)) ?_ (f.back t (f9.lose (.tail .head) (fun _ _ _ e => e) oD.h0 oD.nw)).1 (((l3.trans l4).trans l6).trans ((l7.trans l8).trans l9))
  ·rfl
  ·rfl
  ·rw [List.length_append, List.length_append, List.length_set, ll, hul]; exact Nat.le_of_ble_eq_true rfl
in #guard_msgs in open Nat
end
noncomputable def codeOf (x : Str) : Int := if x = "dagger" then 8224 else if x = "ellipsis" then 8230 else -1
noncomputable def nameOk (x : Str) : Prop := x = "" ∨ x = "dagger" ∨ x = "ellipsis"
section
variable {A : Around} {h₀ h : Heap} {F₀ F : Fz} {W : List Addr} {mu mu' : Mu} {tk : Nat}
theorem c_known {x : Str} {tx : Tok} {Q : Value → Shared → Prop} (hR : Room 6 A) (f : Fm h₀ F₀ W mu F h) (hx : nameOk x)
  (ret : ∀ t F' h' tk', Fm h₀ F₀ W mu F' h' → Le F F' → Q (.int (codeOf x) t) ⟨h', g, d, tk', os⟩) : wpAny (model prog w) A (call (.ref 720) [.str x tx]) Q E ⟨h, g, d, tk, os⟩ := by
 have t : Tk [] [] mu mu := .nil
 obtain ⟨es, k1, k2, k3, k4, k5⟩ := kk_other prog
 rcases hx with rfl | rfl | rfl
 ·refine r_use (enter ["name"] ["names"] [("OTHER_CODES", .ref 686), ("ascii_names", .ref 694), ("latin_names", .ref 699)] [("name", some (.str ("" : Str) tx)), ("names", none)] hR f (f.take t) (by unfold K; k_is) (by unfold K; k_is) (BindsTo.of_eq rfl) rfl rfl (by decide) (by decide) (by decide) (Ga.all (.cons (gv_OTHER_CODES) (.cons (gv_ascii_names) (.cons (gv_latin_names) .nil)))) rfl rfl rfl (by decide) rfl ?_)
  intro env h2 tk2 ok f2 hR2
  k_extra "sf"
  refine k_inD f2 k1 k2 (by decide) false (by rw [k5]; rfl) fun tk3 => ?_
  k_extra "sf"
  k_extra "callk"
  k_extra "sf"
  k_extra "cAscii"
  intro D us F3 h3 tk3 e3 hn3 hl3 f3 l3
  k_extra "sf"
  k_extra "inL"
  case hs => exact hn3.ss
  case b => exact false
  case hb => exact hn3.no
  k_extra "sf"
  k_extra "callk"
  k_extra "sf"
  k_extra "cLatin"
  intro D4 us4 F4 h4 tk4 e4 hn4 hl4 f4 l4
  k_extra "sf"
  k_extra "inL"
  case hs => exact hn4.ss
  case b => exact false
  case hb => exact hn4.no
  k_extra "sf"
  rename Fm h F _ _ _ _ => fe
  exact ret _ _ _ _ (f.back t fe).1 (f.back t fe).2
 ·refine r_use (enter ["name"] ["names"] [("OTHER_CODES", .ref 686), ("ascii_names", .ref 694), ("latin_names", .ref 699)] [("name", some (.str ("dagger" : Str) tx)), ("names", none)] hR f (f.take t) (by unfold K; k_is) (by unfold K; k_is) (BindsTo.of_eq rfl) rfl rfl (by decide) (by decide) (by decide) (Ga.all (.cons (gv_OTHER_CODES) (.cons (gv_ascii_names) (.cons (gv_latin_names) .nil)))) rfl rfl rfl (by decide) rfl ?_)
  intro env h2 tk2 ok f2 hR2
  k_extra "sf"
  refine k_inD f2 k1 k2 (by decide) true (by rw [k3]; rfl) fun tk3 => ?_
  k_extra "sf"
  refine k_itemD f2 k1 k2 k3 (fun tk4 => ?_) (by with_unfolding_all rfl)
  k_extra "sf"
  exact ret _ _ _ _ (f.back t f2).1 (f.back t f2).2
 ·refine r_use (enter ["name"] ["names"] [("OTHER_CODES", .ref 686), ("ascii_names", .ref 694), ("latin_names", .ref 699)] [("name", some (.str ("ellipsis" : Str) tx)), ("names", none)] hR f (f.take t) (by unfold K; k_is) (by unfold K; k_is) (BindsTo.of_eq rfl) rfl rfl (by decide) (by decide) (by decide) (Ga.all (.cons (gv_OTHER_CODES) (.cons (gv_ascii_names) (.cons (gv_latin_names) .nil)))) rfl rfl rfl (by decide) rfl ?_)
  intro env h2 tk2 ok f2 hR2
  k_extra "sf"
  refine k_inD f2 k1 k2 (by decide) true (by rw [k4]; rfl) fun tk3 => ?_
  k_extra "sf"
  refine k_itemD f2 k1 k2 k4 (fun tk4 => ?_) (by with_unfolding_all rfl)
  k_extra "sf"
  exact ret _ _ _ _ (f.back t f2).1 (f.back t f2).2
in #guard_msgs in open Nat
end
section
variable {A : Around} {env : Env} {h : Heap} {tk : Nat} {s : Shared}
theorem r_ge {a b : Int} {t u : Tok} {Q : Value → Shared → Prop} (q : Q (.bool (decide (a ≥ b))) s) : wpAny (model prog w) A (compareOp .GtE (.int a t) (.int b u)) Q E s := PyProof.Rows.ge_int q
in #guard_msgs in open Nat
end
noncomputable def ptext (x : Str) : Str := if x = "dagger" then "†" else if x = "ellipsis" then "…" else ""
theorem cut_dot {x : Str} (hx : nameOk x) : (decide (x.length < (".":Str).length) || decide (Builtin.Str.strKind x < Builtin.Str.strKind ".")) = true ∨ ((decide (x.length < (".":Str).length) || decide (Builtin.Str.strKind x < Builtin.Str.strKind ".")) = false ∧ ((".":Str).length == 0) = false ∧ (Builtin.Str.occurrences x "." 0 x.length (x.length + 1)).isEmpty = true) := by
 rcases hx with rfl | rfl | rfl
 ·exact .inl (by decide +kernel)
 ·exact .inr (by decide +kernel)
 ·exact .inr (by decide +kernel)
in #guard_msgs in open Nat
theorem cut_under {x : Str} (hx : nameOk x) : (decide (x.length < ("_":Str).length) || decide (Builtin.Str.strKind x < Builtin.Str.strKind "_")) = true ∨ ((decide (x.length < ("_":Str).length) || decide (Builtin.Str.strKind x < Builtin.Str.strKind "_")) = false ∧ (("_":Str).length == 0) = false ∧ (Builtin.Str.occurrences x "_" 0 x.length (x.length + 1)).isEmpty = true) := by
 rcases hx with rfl | rfl | rfl
 ·exact .inl (by decide +kernel)
 ·exact .inr (by decide +kernel)
 ·exact .inr (by decide +kernel)
in #guard_msgs in open Nat
section
variable {A : Around} {h₀ h : Heap} {F₀ F : Fz} {W : List Addr} {mu mu' : Mu} {tk : Nat}
theorem c_part {x : Str} {tx : Tok} {Q : Value → Shared → Prop} (hR : Room 8 A) (f : Fm h₀ F₀ W mu F h) (hx : nameOk x)
  (ret : ∀ t F' h' tk', Fm h₀ F₀ W mu F' h' → Le F F' → Q (.str (ptext x) t) ⟨h', g, d, tk', os⟩) : wpAny (model prog w) A (call (.ref 725) [.str x tx]) Q E ⟨h, g, d, tk, os⟩ := by
 have t : Tk [] [] mu mu := .nil
 have hx0 := hx
 rcases hx with rfl | rfl | rfl
 ·refine r_use (enterC [] ["code", "codes"] [("known_code", .ref 720), ("chr", .builtin "chr"), ("len", .builtin "len"), ("range", .type "range")] [("code", none), ("codes", none)] (fun L => [(L + 1, cel (some (.str ("" : Str) tx)))]) hR f (f.take t) (by unfold K; k_is) (by unfold K; k_is) (BindsTo.of_eq rfl) rfl rfl (fun L => rfl) (of_decide_eq_true rfl) rfl (by decide) (Ga.all (.cons (gv_known_code) (.cons (gv_chr) (.cons (gv_len) (.cons (gv_range) .nil))))) rfl rfl rfl (by decide) (by decide) rfl ?_)
  intro env h2 tk2 L ok hcl f2 hR2
  rw [List.append_nil] at f2
  have cp := hcl "part" (L + 1) (.head _)
  have c1 : Cl env "part" (L + 1) := ⟨.inl cp.1.1, cp.1.2⟩
  k_extra "sfS"
  k_extra "callk"
  k_extra "sfS"
  k_extra "cKnown"
  case hx => exact hx0
  intro t3 F3 h3 tk3 f3 l3
  rw [show codeOf ("" : Str) = -1 from rfl]
  k_extra "sfS"
  k_extra "itc"
  k_extra "sfS"
  k_extra "cut0"
  k_extra "sfS"
  try k_extra "eqs"
  k_extra "sfS"
  k_extra "cut0"
  k_extra "sfS"
  try k_extra "eqs"
  k_extra "sfS"
  rename Fm h F _ _ _ _ => fe
  have fz := fe.lose (.tail .head) (fun _ _ _ e => e) cp.2.h0 cp.2.nw
  exact ret _ _ _ _ (f.back t fz).1 (f.back t fz).2
 ·refine r_use (enterC [] ["code", "codes"] [("known_code", .ref 720), ("chr", .builtin "chr"), ("len", .builtin "len"), ("range", .type "range")] [("code", none), ("codes", none)] (fun L => [(L + 1, cel (some (.str ("dagger" : Str) tx)))]) hR f (f.take t) (by unfold K; k_is) (by unfold K; k_is) (BindsTo.of_eq rfl) rfl rfl (fun L => rfl) (of_decide_eq_true rfl) rfl (by decide) (Ga.all (.cons (gv_known_code) (.cons (gv_chr) (.cons (gv_len) (.cons (gv_range) .nil))))) rfl rfl rfl (by decide) (by decide) rfl ?_)
  intro env h2 tk2 L ok hcl f2 hR2
  rw [List.append_nil] at f2
  have cp := hcl "part" (L + 1) (.head _)
  have c1 : Cl env "part" (L + 1) := ⟨.inl cp.1.1, cp.1.2⟩
  k_extra "sfS"
  k_extra "callk"
  k_extra "sfS"
  k_extra "cKnown"
  case hx => exact hx0
  intro t3 F3 h3 tk3 f3 l3
  rw [show codeOf ("dagger" : Str) = 8224 from rfl]
  k_extra "sfS"
  k_extra "itc"
  k_extra "sfS"
  k_extra "callb"
  k_extra "sfS"
  k_extra "chr"
  case h0 => decide
  case h1 => decide
  k_extra "sfS"
  rename Fm h F _ _ _ _ => fe
  have fz := fe.lose (.tail .head) (fun _ _ _ e => e) cp.2.h0 cp.2.nw
  exact ret _ _ _ _ (f.back t fz).1 (f.back t fz).2
 ·refine r_use (enterC [] ["code", "codes"] [("known_code", .ref 720), ("chr", .builtin "chr"), ("len", .builtin "len"), ("range", .type "range")] [("code", none), ("codes", none)] (fun L => [(L + 1, cel (some (.str ("ellipsis" : Str) tx)))]) hR f (f.take t) (by unfold K; k_is) (by unfold K; k_is) (BindsTo.of_eq rfl) rfl rfl (fun L => rfl) (of_decide_eq_true rfl) rfl (by decide) (Ga.all (.cons (gv_known_code) (.cons (gv_chr) (.cons (gv_len) (.cons (gv_range) .nil))))) rfl rfl rfl (by decide) (by decide) rfl ?_)
  intro env h2 tk2 L ok hcl f2 hR2
  rw [List.append_nil] at f2
  have cp := hcl "part" (L + 1) (.head _)
  have c1 : Cl env "part" (L + 1) := ⟨.inl cp.1.1, cp.1.2⟩
  k_extra "sfS"
  k_extra "callk"
  k_extra "sfS"
  k_extra "cKnown"
  case hx => exact hx0
  intro t3 F3 h3 tk3 f3 l3
  rw [show codeOf ("ellipsis" : Str) = 8230 from rfl]
  k_extra "sfS"
  k_extra "itc"
  k_extra "sfS"
  k_extra "callb"
  k_extra "sfS"
  k_extra "chr"
  case h0 => decide
  case h1 => decide
  k_extra "sfS"
  rename Fm h F _ _ _ _ => fe
  have fz := fe.lose (.tail .head) (fun _ _ _ e => e) cp.2.h0 cp.2.nw
  exact ret _ _ _ _ (f.back t fz).1 (f.back t fz).2
in #guard_msgs in open Nat
end
section
variable {A : Around} {h₀ h : Heap} {F₀ F : Fz} {W : List Addr} {mu mu' : Mu} {tk : Nat}
theorem c_gtext {x : Str} {tx : Tok} {Q : Value → Shared → Prop} (hR : Room 10 A) (f : Fm h₀ F₀ W mu F h) (hx : nameOk x)
  (ret : ∀ t F' h' tk', Fm h₀ F₀ W mu F' h' → Le F F' → Q (.str (ptext x) t) ⟨h', g, d, tk', os⟩) : wpAny (model prog w) A (call (.ref 730) [.str x tx]) Q E ⟨h, g, d, tk, os⟩ := by
 have t : Tk [] [] mu mu := .nil
 refine r_use (enter ["name"] [] [] [("name", some (.str x tx))] hR f (f.take t) (by unfold K; k_is) (by unfold K; k_is) (BindsTo.of_eq rfl) rfl rfl (by decide) (by decide) (by decide) (Ga.all .nil) rfl rfl rfl (by decide) rfl ?_)
 intro env h2 tk2 ok f2 hR2
 k_extra "sfS"
 k_extra "gmS"
 k_extra "sfS"
 refine r_comp (cl := []) rfl rfl (by decide) (fun _ => rfl) ?_
 k_extra "sfS"
 k_extra "gmS"
 k_extra "sfS"
 k_extra "spl"
 case hx => exact cut_dot hx
 intro D3 F3 h3 f3 l3 e3
 k_extra "sfS"
 k_extra "gmS"
 k_extra "sfS"
 k_extra "spl"
 case hx => exact cut_under hx
 intro D4 F4 h4 f4 l4 e4
 k_extra "sfS"
 refine iter_list (by assumption) (by k_extra "at") fun I h5 f5 o5 => ?_
 refine comp_goK (fun (i : Nat) (vs : List Value) (_ : Fz) => ∀ v ∈ vs, ∃ t, v = Value.str (ptext x) t) (Src.list (by k_extra "hd") e4 (f5.mus.has (I, _) (.tail _ (.head _))).2) f5 o5 (fun _ h => nomatch h) (Nat.le_of_ble_eq_true rfl) (by decide) rfl rfl ?_ ?_
 ·rintro C i v vs F6 h6 tk6 hi hv hl hn l6 cok D f6
  have ok' := cok.ok [("part_text", .ref 725)] ok rfl (by decide) (Ga.all (.cons (gv_part_text) .nil))
  have hm := List.mem_singleton.mp (List.mem_of_getElem? hv)
  subst hm
  k_extra "sfS"
  k_extra "callk"
  k_extra "sfS"
  k_extra "cPart"
  case hx => exact hx
  intro t7 F7 h7 tk7 f7 l7
  refine ⟨F7, _, _, rfl, f7, l6.trans l7, fun v hv => ?_⟩
  rcases List.mem_append.mp hv with hv | hv
  ·exact hn v hv
  ·exact ⟨t7, List.mem_singleton.mp hv⟩
 ·rintro D us F6 F7 h7 tk7 hul hn l6 l7 eD f7
  obtain ⟨u, rfl⟩ := List.length_eq_one_iff.mp hul
  obtain ⟨t8, rfl⟩ := hn u (.head _)
  k_extra "sfS"
  refine r_join1 f7 (by k_extra "at") ?_ ?_
  ·rcases hx with rfl | rfl | rfl <;> decide
  k_extra "sfS"
  exact ret _ _ _ _ (f.back t f7).1 (f.back t f7).2
in #guard_msgs in open Nat
end
inductive RowsOk (F : Fz) (b : Bool) (rw : Addr) (dv : Int) : Prop
  | mk (T L lo hi t1 t2 ws) (e0 : F rw = some (lst [.ref T])) (e1 : F T = some (tup [.int lo t1, .int hi t2, .ref L])) (e2 : F L = some (lst ws)) (e3 : ws.length ≤ 2) (e4 : 0 ≤ lo) (e5 : hi ≤ 300) (e6 : (∀ c, okI c → lo ≤ c → c ≤ hi → ∃ t, ws[(if (ws.length : Int) = hi - lo + 1 then c - lo else 0).toNat]? = some (.int (gwide b c) t))) (e7 : (∀ c, okI c → ¬ (lo ≤ c ∧ c ≤ hi) → gwide b c = dv)) : RowsOk F b rw dv
theorem RowsOk.mono {F F' : Fz} (l : Le F F') {b : Bool} {rw : Addr} {dv : Int} (h : RowsOk F b rw dv) : RowsOk F' b rw dv := by
 obtain ⟨T, L, lo, hi, t1, t2, ws, a, b, c, d, d1, d2, d3, d4⟩ := h
 exact ⟨T, L, lo, hi, t1, t2, ws, l _ _ a, l _ _ b, l _ _ c, d, d1, d2, d3, d4⟩
in #guard_msgs in open Nat
noncomputable def UniOk (prog : Program) (w : World) (F : Fz) (b : Bool) (um : Value) (nm : Addr) : Prop :=
  if b then ∃ cm dcm sp ch xs, um = .ref cm ∧ F cm = some (Raw (instObj 650 dcm)) ∧ F dcm = some (idc [("spaces", some sp), ("chars", some (.ref ch))]) ∧ F ch = some (dicH prog w xs) ∧ (ch == sysModules) = false ∧ (∀ x ∈ xs, TupI prog w F x.1 x.2.1) ∧ ∀ c, okI c → ∃ p t, atKey xs [1, c] = some (p, .str (gtext true c) t)
  else um = .none ∧ ∃ vs, F nm = some (lst vs) ∧ ∀ c, okI c → ∃ x t, vs[c.toNat]? = some (Value.str x t) ∧ nameOk x ∧ ptext x = gtext false c
theorem UniOk.mono {prog : Program} {w : World} {F F' : Fz} (l : Le F F') {b : Bool} {um : Value} {nm : Addr} (h : UniOk prog w F b um nm) : UniOk prog w F' b um nm := by
 cases b with
 | true =>
  obtain ⟨cm, dcm, sp, ch, xs, e, h1, h2, h3, ns, h4, h5⟩ := h
  exact ⟨cm, dcm, sp, ch, xs, e, l _ _ h1, l _ _ h2, l _ _ h3, ns, fun x hx => (h4 x hx).mono l, h5⟩
 | false =>
  obtain ⟨e, vs, h1, h2⟩ := h
  exact ⟨e, vs, l _ _ h1, h2⟩
in #guard_msgs in open Nat
inductive FontV (prog : Program) (w : World) (F : Fz) (v : Value) (b : Bool) : Prop
  | mk (a da nm um rw un st dv td) (e0 : v = .ref a) (e1 : F a = some (Raw (instObj 787 da))) (e2 : F da = some (idc [("names", some (.ref nm)), ("cutting", some .none), ("unicode", some um), ("rows", some (.ref rw)), ("default", some (.int dv td)), ("unit", some (.ref un)), ("standard", some (.ref st))])) (e3 : F st = some (tup [])) (e4 : DecV F (.ref un) (1 / 1000)) (e5 : handedIn um = true) (e6 : UniOk prog w F b um nm) (e7 : RowsOk F b rw dv) : FontV prog w F v b
theorem FontV.mono {prog : Program} {w : World} {F F' : Fz} (l : Le F F') {v : Value} {b : Bool} (h : FontV prog w F v b) : FontV prog w F' v b := by
 obtain ⟨a, da, nm, um, rw, un, st, dv, td, e, h1, h2, h3, h4, h5, h6, h7⟩ := h
 exact ⟨a, da, nm, um, rw, un, st, dv, td, e, l _ _ h1, l _ _ h2, l _ _ h3, h4.mono l, h5, h6.mono l, h7.mono l⟩
in #guard_msgs in open Nat
section
variable {A : Around} {env : Env} {gt : Gt} {h₀ h : Heap} {F₀ F : Fz} {W : List Addr} {mu : Mu} {ls : Fs} {tk : Nat} {QF : Flow → Shared → Prop}
theorem for_listT {elts : List Expr} {kx : Nat} {tp : Pos} {body rest : List Stmt} {l : Addr} {vs : List Value} (J : Nat → Fs → Mu → Fz → Prop) (hh : A.handled = none) (hl : F l = some (lst vs)) (hr : ∀ v ∈ vs, ∃ T, v = Value.ref T) (f : Fm h₀ F₀ W ((env.locals, frm env ls) :: mu) F h) (j0 : J 0 ls mu F)
  (turn : ∀ I i v ls' mu' F' h' tk', i < vs.length → vs[i]? = some v → J i ls' mu' F' → Le F F' → Own h₀ W I → Fm h₀ F₀ W ((env.locals, frm env ls') :: (I, itL l (i + 1)) :: mu') F' h' →
   wpAny (model prog w) A (assign (.Tuple elts kx tp) env v) (fun _ s₂ => wpAny (model prog w) A (execs body env) (Tn QF (Inv h₀ F₀ W env I (itL l (i + 1)) g d os F (J (i + 1)))) E s₂) E ⟨h', g, d, tk', os⟩)
  (done : ∀ ls' mu' F' h' tk', J vs.length ls' mu' F' → Le F F' → Fm h₀ F₀ W ((env.locals, frm env ls') :: mu') F' h' → wpAny (model prog w) A (execs rest env) QF E ⟨h', g, d, tk', os⟩) :
  wpAny (model prog w) A (pyIter (.ref l)) (fun it s₂ => ForGo (model prog w) A env (.Tuple elts kx tp) body rest QF it s₂) E ⟨h, g, d, tk, os⟩ := by
 refine wpAny_pyIter_list (lst_list (f.ext.fz _ _ hl)) ?_
 obtain ⟨f', o⟩ := f.pushN (c := itL l 0) (o := { cls := .type "list_iterator", data := .fields #[.ref l, .int 0 0] }) ⟨rfl, rfl⟩ rfl
 have S : Src prog w A F _ vs.length (fun i v => vs[i]? = some v) (itL l) := Src.list hh hl (f'.mus.has _ (.tail _ (.head _))).2
 refine codeAny_forLoop_any (fun k s => ∃ i, i ≤ vs.length ∧ k = vs.length - i ∧ Inv h₀ F₀ W env h.objs.size (itL l i) g d os F (J i) s) ?_ vs.length ⟨0, Nat.zero_le _, rfl, ls, mu, F, _, tk, rfl, f', Le.rfl, j0⟩
 rintro k s ⟨i, hi, rfl, ls', mu', F', h', tk', rfl, f'', le, j⟩
 have S' := S.mono le
 have hc := (f''.mus.has (_, itL l i) (.tail _ (.head _))).1
 rcases Nat.lt_or_ge i vs.length with lt | ge
 ·refine S'.item i _ _ _ lt f''.ext.fz hc fun v h₁ tk₁ hP hc' hk => ?_
  obtain ⟨T, rfl⟩ := hr v (List.mem_of_getElem? hP)
  have f₁ := f''.turn (.tail .head) hk hc'
  refine wpAny_letOwnedTupleGo_listiter (l := l) (i := i + 1) (by obtain ⟨o, e, e1, e2⟩ := hc'; exact ⟨o, e, e1, e2⟩) ?_
  refine wpAny_mono (turn _ i _ ls' mu' F' h₁ tk₁ lt hP j le o f₁) (fun _ s₂ h₂ => wpAny_mono h₂ (fun fl s₃ h₃ => ?_) fun _ _ z => z.elim) fun _ _ z => z.elim
  cases fl with
  | next => exact ⟨vs.length - (i + 1), by k_extra "om", i + 1, lt, rfl, h₃⟩
  | cont => exact ⟨vs.length - (i + 1), by k_extra "om", i + 1, lt, rfl, h₃⟩
  | brk => exact h₃.elim
  | ret v => exact h₃
 ·have e : i = vs.length := Nat.le_antisymm hi ge
  subst e
  refine S'.done _ _ _ f''.ext.fz hc fun h₁ tk₁ hk => wpAny_execs_nil ?_
  exact done ls' mu' F' h₁ tk₁ j le (f''.lose (.tail .head) hk o.h0 o.nw)
in #guard_msgs in open Nat
end
section
variable {A : Around} {h₀ h : Heap} {F₀ F : Fz} {W : List Addr} {mu mu' : Mu} {tk : Nat}
theorem r_truthT0 {l : Addr} {Q : Bool → Shared → Prop} (f : Fm h₀ F₀ W mu F h) (hl : At mu F l (tup [])) (q : ∀ tk', Q false ⟨h, g, d, tk', os⟩) : wpAny (model prog w) A (truthy (.ref l)) Q E ⟨h, g, d, tk, os⟩ :=
 PyProof.Rows.truthy_tuple (tup_tup (hl.has f)) (by simp) (by simpa using q _) in
theorem c_widthin {rw : Addr} {b : Bool} {c dv : Int} {tc td : Tok} {Q : Value → Shared → Prop} (hR : Room 4 A) (f : Fm h₀ F₀ W mu F h) (ro : RowsOk F b rw dv) (oc : okI c)
  (ret : ∀ t F' h' tk', Fm h₀ F₀ W mu F' h' → Le F F' → Q (.int (gwide b c) t) ⟨h', g, d, tk', os⟩) : wpAny (model prog w) A (call (.ref 737) [.ref rw, .int c tc, .int dv td]) Q E ⟨h, g, d, tk, os⟩ := by
 have t : Tk [] [] mu mu := .nil
 obtain ⟨T, L, lo, hi, t1, t2, ws, hrw, hT, hL, hwl, hlo, hhi, hin, hout⟩ := ro
 have cb := okI_byte oc
 refine r_use (enter ["rows", "code", "default"] ["first", "last", "widths"] [("len", .builtin "len")] [("rows", some (.ref rw)), ("code", some (.int c tc)), ("default", some (.int dv td)), ("first", none), ("last", none), ("widths", none)] hR f (f.take t) (by unfold K; k_is) (by unfold K; k_is) (BindsTo.of_eq rfl) rfl rfl (by decide) (by decide) (by decide) (Ga.all (.cons (gv_len) .nil)) rfl rfl rfl (by decide) rfl ?_)
 intro env h2 tk2 ok f2 hR2
 k_extra "sf"
 refine for_listT (fun (i : Nat) (ls : Fs) (mu : Mu) (F' : Fz) => (∃ o1 o2 o3, ls = ([("rows", some (.ref rw)), ("code", some (.int c tc)), ("default", some (.int dv td)), ("first", o1), ("last", o2), ("widths", o3)] : Fs)) ∧ mu = ([] : Mu) ∧ (i = 1 → gwide b c = dv))
  (by k_extra "hd") hrw (fun v hv => ⟨T, List.mem_singleton.mp hv⟩) (by assumption) ⟨⟨_, _, _, rfl⟩, rfl, fun z => absurd z (by decide)⟩ ?_ ?_
 ·rintro I i v ls' mu' F3 h3 tk3 hi' hv ⟨⟨o1, o2, o3, rfl⟩, rfl, _⟩ l3 oI f3
  have hm := List.mem_singleton.mp (List.mem_of_getElem? hv)
  subst hm
  have hi0 : i = 0 := by simp at hi'; k_extra "om"
  subst hi0
  k_extra "un"
  k_extra "sf"
  refine ite_b (fun c1 => ?_) (fun c1 => ?_)
  ·have c1' : lo ≤ c := of_decide_eq_true c1
   k_extra "sf"
   refine ite_b (fun c2 => ?_) (fun c2 => ?_)
   ·have c2' : c ≤ hi := of_decide_eq_true c2
    obtain ⟨tw, hw⟩ := hin c oc c1' c2'
    k_extra "sf"
    k_extra "callb"
    k_extra "sf"
    k_extra "len"
    k_extra "sf"
    refine ite_b (fun c3 => ?_) (fun c3 => ?_)
    ·have c3' : (ws.length : Int) = hi - lo + 1 := by simpa using c3
     rw [if_pos c3'] at hw
     k_extra "sf"
     k_extra "itm?"
     case h0 => k_extra "om"
     case hk => k_extra "om"
     case hx => exact hw
     k_extra "sf"
     rename Fm h F _ _ _ _ => fe
     have fz := fe.lose (.tail .head) (fun _ _ _ e => e) oI.h0 oI.nw
     exact ret _ _ _ _ (f.back t fz).1 (f.back t fz).2
    ·have c3' : ¬ (ws.length : Int) = hi - lo + 1 := by simpa using c3
     rw [if_neg c3'] at hw
     k_extra "sf"
     k_extra "itm?"
     case h0 => decide
     case hk => decide
     case hx => exact hw
     k_extra "sf"
     rename Fm h F _ _ _ _ => fe
     have fz := fe.lose (.tail .head) (fun _ _ _ e => e) oI.h0 oI.nw
     exact ret _ _ _ _ (f.back t fz).1 (f.back t fz).2
   ·have c2' : ¬ c ≤ hi := of_decide_eq_false c2
    k_extra "sf"
    rename Fm h F _ _ _ _ => fe
    exact ⟨_, _, F3, _, _, rfl, fe, l3, ⟨_, _, _, rfl⟩, rfl, fun _ => hout c oc fun z => c2' z.2⟩
  ·have c1' : ¬ lo ≤ c := of_decide_eq_false c1
   k_extra "sf"
   rename Fm h F _ _ _ _ => fe
   exact ⟨_, _, F3, _, _, rfl, fe, l3, ⟨_, _, _, rfl⟩, rfl, fun _ => hout c oc fun z => c1' z.1⟩
 ·rintro ls' mu' F3 h3 tk3 ⟨⟨o1, o2, o3, rfl⟩, rfl, hd⟩ l3 f3
  have hd := hd rfl
  k_extra "sf"
  rw [← hd]
  exact ret _ _ _ _ (f.back t f3).1 (f.back t f3).2
in #guard_msgs in open Nat
end
inductive CodeV (F : Fz) (v : Value) (c : Int) : Prop
  | mk (T t1 t2) (e0 : v = .ref T) (e1 : F T = some (tup [.int 1 t1, .int c t2])) : CodeV F v c
theorem CodeV.mono {F F' : Fz} (l : Le F F') {v : Value} {c : Int} (h : CodeV F v c) : CodeV F' v c := by
 obtain ⟨T, t1, t2, e, z⟩ := h
 exact ⟨T, t1, t2, e, l _ _ z⟩
in #guard_msgs in open Nat
section
variable {A : Around} {h₀ h : Heap} {F₀ F : Fz} {W : List Addr} {mu mu' : Mu} {tk : Nat}
theorem c_codes {v : Value} {b : Bool} {bs : Array UInt8} {tb : Tok} {Q : Value → Shared → Prop} (hR : Room 4 A) (f : Fm h₀ F₀ W mu F h) (fv : FontV prog w F v b) (ob : Oct bs)
  (ret : ∀ D us F' h' tk', F' D = some (lst us) → Al (CodeV F') us (codesOf bs) → Fm h₀ F₀ W mu F' h' → Le F F' → Q (.ref D) ⟨h', g, d, tk', os⟩) : wpAny (model prog w) A (call (.ref 770) [v, .bytes bs tb]) Q E ⟨h, g, d, tk, os⟩ := by
 have t : Tk [] [] mu mu := .nil
 obtain ⟨a, da, nm, um, rw, un, st, dv, td, rfl, ha, hda, hst, hun, hum, hu, hr⟩ := fv
 refine r_use (enter ["self", "octets"] [] [] [("self", some (.ref a)), ("octets", some (.bytes bs tb))] hR f (f.take t) (by unfold K; k_is) (by unfold K; k_is) (BindsTo.of_eq rfl) rfl rfl (by decide) (by decide) (by decide) (Ga.all .nil) rfl rfl rfl (by decide) rfl ?_)
 intro env h2 tk2 ok f2 hR2
 k_extra "sf"
 refine r_comp (cl := []) rfl rfl (by decide) (fun _ => rfl) ?_
 k_extra "sf"
 refine iter_bytes (by assumption) fun I h3 f3 o3 => ?_
 refine comp_goK (fun (i : Nat) (vs : List Value) (F' : Fz) => Al (CodeV F') vs ((codesOf bs).take i)) (Src.bytes (by k_extra "hd")) f3 o3 .nil (by have := ob.sz; k_extra "om") (by decide) rfl rfl ?_ ?_
 ·rintro C i v vs F6 h6 tk6 hi ⟨cc, u, hv, rfl⟩ hl hn l6 cok D f6
  have ok' := cok.ok [] ok rfl (by decide) (Ga.all .nil)
  k_extra "sf"
  k_extra "mkt"
  intro T F7 h7 f7 l7 e7
  refine ⟨F7, _, _, rfl, f7, l6.trans l7, ?_⟩
  rw [codes_take hv]
  exact (hn.mono fun v c => CodeV.mono l7).app (.cons ⟨T, _, _, rfl, e7⟩ .nil)
 ·rintro D us F6 F7 h7 tk7 hul hn l6 l7 eD f7
  rw [show bs.size = (codesOf bs).length from (codes_len bs).symm, List.take_length] at hn
  k_extra "sf"
  exact ret D us F7 _ _ eD (hn.mono fun v c => CodeV.mono l7) (f.back t f7).1 (f.back t f7).2
in #guard_msgs in open Nat
theorem c_fwidth {v p : Value} {b : Bool} {c : Int} {Q : Value → Shared → Prop} (hR : Room 16 A) (f : Fm h₀ F₀ W mu F h) (fv : FontV prog w F v b) (pv : CodeV F p c) (oc : okI c)
  (ret : ∀ v' F' h' tk', DecV F' v' (wd b c) → Fm h₀ F₀ W mu F' h' → Le F F' → Q v' ⟨h', g, d, tk', os⟩) : wpAny (model prog w) A (call (.ref 777) [v, p]) Q E ⟨h, g, d, tk, os⟩ := by
 have t : Tk [] [] mu mu := .nil
 obtain ⟨a, da, nm, um, rw, un, st, dv, td, rfl, ha, hda, hst, hun, hum, hu, hr⟩ := fv
 obtain ⟨T, t1, t2, rfl, hT⟩ := pv
 refine r_use (enter ["self", "pair"] ["found"] [("width_in", .ref 737), ("decimal_of", .ref 185)] [("self", some (.ref a)), ("pair", some (.ref T)), ("found", none)] hR f (f.take t) (by unfold K; k_is) (by unfold K; k_is) (BindsTo.of_eq rfl) rfl rfl (by decide) (by decide) (by decide) (Ga.all (.cons (gv_width_in) (.cons (gv_decimal_of) .nil))) rfl rfl rfl (by decide) rfl ?_)
 intro env h2 tk2 ok f2 hR2
 k_extra "sf"
 k_extra "trT0"
 k_extra "sf"
 k_extra "callk"
 k_extra "sf"
 k_extra "cWin"
 case ro => exact hr
 case oc => exact oc
 intro tw F3 h3 tk3 f3 l3
 k_extra "sf"
 k_extra "callk"
 k_extra "sf"
 k_extra "cDecof"
 intro v4 F4 h4 tk4 hv4 f4 l4
 obtain ⟨b4, rfl⟩ := hv4.ref
 k_extra "sg"
 k_extra "cTimes"
 case d1 => exact Dq.int (gwide_le b c)
 case d2 => exact (⟨1, by rw [thou]; grind, by decide⟩ : Dq 3 1 (1 / 1000))
 case hq => decide
 intro v5 F5 h5 tk5 hv5 f5 l5
 k_extra "sg"
 have e : ((gwide b c : Int) : Rat) * (1 / 1000) = wd b c := by unfold wd; grind
 rw [e] at hv5
 exact ret _ _ _ _ hv5 (f.back t f5).1 (f.back t f5).2
in #guard_msgs in open Nat
theorem c_ftext {v p : Value} {b : Bool} {c : Int} {Q : Value → Shared → Prop} (hR : Room 16 A) (f : Fm h₀ F₀ W mu F h) (fv : FontV prog w F v b) (pv : CodeV F p c) (oc : okI c)
  (ret : ∀ t' F' h' tk', Fm h₀ F₀ W mu F' h' → Le F F' → Q (.str (gtext b c) t') ⟨h', g, d, tk', os⟩) : wpAny (model prog w) A (call (.ref 784) [v, p]) Q E ⟨h, g, d, tk, os⟩ := by
 have t : Tk [] [] mu mu := .nil
 obtain ⟨a, da, nm, um, rw, un, st, dv, td, rfl, ha, hda, hst, hun, hum, hu, hr⟩ := fv
 obtain ⟨T, t1, t2, rfl, hT⟩ := pv
 cases b with
 | true =>
  obtain ⟨cm, dcm, sp, ch, xs, rfl, h1, h2', h3, ns, h4, h5⟩ := hu
  obtain ⟨pa, tp, hat⟩ := h5 c oc
  refine r_use (enter ["self", "pair"] [] [("glyph_text", .ref 730)] [("self", some (.ref a)), ("pair", some (.ref T))] hR f (f.take t) (by unfold K; k_is) (by unfold K; k_is) (BindsTo.of_eq rfl) rfl rfl (by decide) (by decide) (by decide) (Ga.all (.cons (gv_glyph_text) .nil)) rfl rfl rfl (by decide) rfl ?_)
  intro env h2 tk2 ok f2 hR2
  k_extra "sf"
  refine r_inH hR2 f2 (.f h3) ns h4 (TupI.two hT) true (by rw [hat]; rfl) fun tk3 => ?_
  k_extra "sf"
  refine r_itemH hR2 f2 (.f h3) h4 (TupI.two hT) hat (fun tk4 => ?_) (by with_unfolding_all rfl)
  k_extra "sf"
  exact ret _ _ _ _ (f.back t f2).1 (f.back t f2).2
 | false =>
  obtain ⟨rfl, vs, hnm, hn⟩ := hu
  obtain ⟨x, tx, hx, ox, ex⟩ := hn c oc
  have cb := okI_byte oc
  refine r_use (enter ["self", "pair"] [] [("glyph_text", .ref 730)] [("self", some (.ref a)), ("pair", some (.ref T))] hR f (f.take t) (by unfold K; k_is) (by unfold K; k_is) (BindsTo.of_eq rfl) rfl rfl (by decide) (by decide) (by decide) (Ga.all (.cons (gv_glyph_text) .nil)) rfl rfl rfl (by decide) rfl ?_)
  intro env h2 tk2 ok f2 hR2
  k_extra "sf"
  k_extra "callk"
  k_extra "sf"
  k_extra "itm?"
  case h0 => k_extra "om"
  case hk => k_extra "om"
  case hx => exact hx
  k_extra "sf"
  k_extra "cGtext"
  case hx => exact ox
  intro t5 F5 h5 tk5 f5 l5
  k_extra "sf"
  rw [ex]
  exact ret _ _ _ _ (f.back t f5).1 (f.back t f5).2
in #guard_msgs in open Nat
end
structure CE where
  a : Addr
  da : Addr
  sp : Addr
  m : Addr
  f : Value
  z : Addr
  c : Addr
  w : Addr
  h : Addr
  l : Addr
  r : Addr
noncomputable abbrev CE.fs (x : CE) : Fs := [("ctm", some (.ref x.m)), ("font", some x.f), ("size", some (.ref x.z)), ("spacing", some (.ref x.sp))]
noncomputable abbrev CE.kvs (x : CE) : List (Str × Value) := [("Tc", .ref x.c), ("Tw", .ref x.w), ("Tz", .ref x.h), ("TL", .ref x.l), ("Ts", .ref x.r)]
noncomputable abbrev CE.cells (prog : Program) (w : World) (x : CE) : Mu := [(x.da, idc x.fs), (x.sp, dic (strKind prog w) x.kvs)]
structure CsV (prog : Program) (w : World) (F : Fz) (x : CE) (s : TS) : Prop where
  obj : F x.a = some (Raw (instObj 505 x.da))
  ctm : MatV F (.ref x.m) s.ctm
  font : if s.set = true then FontV prog w F x.f s.font else x.f = .none
  hf : handedIn x.f = true
  size : DecV F (.ref x.z) s.size
  Tc : DecV F (.ref x.c) s.Tc
  Tw : DecV F (.ref x.w) s.Tw
  Tz : DecV F (.ref x.h) s.Tz
  TL : DecV F (.ref x.l) s.TL
  Ts : DecV F (.ref x.r) s.Ts
  ns : (x.sp == sysModules) = false
theorem CsV.mono {prog : Program} {w : World} {F F' : Fz} (l : Le F F') {x : CE} {s : TS} (h : CsV prog w F x s) : CsV prog w F' x s := by
 refine ⟨l _ _ h.obj, h.ctm.mono l, ?_, h.hf, h.size.mono l, h.Tc.mono l, h.Tw.mono l, h.Tz.mono l, h.TL.mono l, h.Ts.mono l, h.ns⟩
 have := h.font
 split
 ·rename_i e; rw [if_pos e] at this; exact this.mono l
 ·rename_i e; rw [if_neg e] at this; exact this
in #guard_msgs in open Nat
noncomputable def TS.init (M : M6) : TS := ⟨M, true, 0, 0, 0, 100, 0, 0, false⟩
section
variable {A : Around} {h₀ h : Heap} {F₀ F : Fz} {W : List Addr} {mu mu' : Mu} {tk : Nat}
theorem c_mk_state {m : Addr} {M : M6} {Q : Value → Shared → Prop} (hR : Room 12 A) (f : Fm h₀ F₀ W mu F h) (km : MatV F (.ref m) M)
  (ret : ∀ x F' h' tk', CsV prog w F' x (TS.init M) → Fm h₀ F₀ W (mu ++ x.cells prog w) F' h' → (∀ a ∈ adr (x.cells prog w), h.get? a = none) → Le F F' → Q (.ref x.a) ⟨h', g, d, tk', os⟩) : wpAny (model prog w) A (call (.ref 505) [.ref m]) Q E ⟨h, g, d, tk, os⟩ := by
 refine r_use (make (n := 11) (ks := ["ctm", "font", "size", "spacing"]) hR f (mk_TextState) (by decide) fun a da F1 h1 A' x1 ha hd hn h0 hR' => ?_)
 refine enter ["self", "ctm"] [] [("Decimal", .ref 167)] [("self", some (.ref a)), ("ctm", some (.ref m))] hR' (f.call0 x1) (Mus.mk1 (c := idc [("ctm", none), ("font", none), ("size", none), ("spacing", none)]) hd hn) (by unfold K; k_is) (by unfold K; k_is) (BindsTo.of_eq rfl) rfl rfl (by decide) (by decide) (by decide) (Ga.all (.cons (gv_Decimal) .nil)) rfl rfl rfl (by decide) rfl ?_
 intro env h2 tk2 ok f2 hR2
 have zero : ((0 : Int) : Rat) = 0 * 10 ^ 0 := by rw [Rat.zero_mul]; rfl
 have hund' : ((100 : Int) : Rat) = 100 * 10 ^ 0 := by rw [Rat.pow_zero, Rat.mul_one]; rfl
 k_extra "sf"
 k_extra "sat"
 k_extra "sf"
 k_extra "sat"
 k_extra "sf"
 k_extra "callk"
 k_extra "sf"
 k_extra "cDec"
 case hx => exact zero
 intro v3 F3 h3 tk3 hv3 f3 l3
 obtain ⟨b3, rfl⟩ := hv3.ref
 k_extra "sf"
 k_extra "sat"
 k_extra "sf"
 k_extra "dS"
 intro D h4 f4 o4 ns4
 k_extra "sf"
 k_extra "callk"
 k_extra "sf"
 k_extra "cDec"
 case hx => exact zero
 intro v5 F5 h5 tk5 hv5 f5 l5
 obtain ⟨b5, rfl⟩ := hv5.ref
 k_extra "sf"
 k_extra "callk"
 k_extra "sf"
 k_extra "cDec"
 case hx => exact zero
 intro v6 F6 h6 tk6 hv6 f6 l6
 obtain ⟨b6, rfl⟩ := hv6.ref
 k_extra "sf"
 k_extra "callk"
 k_extra "sf"
 k_extra "cDec"
 case hx => exact hund'
 intro v7 F7 h7 tk7 hv7 f7 l7
 obtain ⟨b7, rfl⟩ := hv7.ref
 k_extra "sf"
 k_extra "callk"
 k_extra "sf"
 k_extra "cDec"
 case hx => exact zero
 intro v8 F8 h8 tk8 hv8 f8 l8
 obtain ⟨b8, rfl⟩ := hv8.ref
 k_extra "sf"
 k_extra "callk"
 k_extra "sf"
 k_extra "cDec"
 case hx => exact zero
 intro v9 F9 h9 tk9 hv9 f9 l9
 obtain ⟨b9, rfl⟩ := hv9.ref
 k_extra "sf"
 k_extra "mkd"
 k_extra "sf"
 k_extra "sat"
 k_extra "sf"
 rename Fm h1 F1 _ _ _ _ => fe
 have hw : ∀ a' ∈ adr [(da, idc [("ctm", none), ("font", none), ("size", none), ("spacing", none)])], h.get? a' = none := fun a' ha' => by rw [List.mem_singleton.mp ha']; exact h0
 have hD : h.get? D = none := by
  cases q : h.get? D with
  | none => rfl
  | some o => have := x1.keep D o q (fun z => nomatch z); rw [o4.h0] at this; cases this
 have hu : ∀ a' ∈ adr (CE.cells prog w ⟨a, da, D, m, .none, b3, b5, b6, b7, b8, b9⟩), h.get? a' = none := fun a' ha' => by
  rcases List.mem_cons.mp ha' with e | ha'
  ·rw [e]; exact h0
  ·rw [List.mem_singleton.mp ha']; exact hD
 have fe2 : Fm h1 F1 [da] (_ :: CE.cells prog w ⟨a, da, D, m, .none, b3, b5, b6, b7, b8, b9⟩) F9 _ := fe.perm (.cons _ (.swap _ _ _))
 obtain ⟨fj, lj⟩ := f.join x1 hw hu fe2
 have m8 := l9
 have m7 := l8.trans m8
 have m6 := l7.trans m7
 have m5 := l6.trans m6
 have m4 := l5.trans m5
 exact ret ⟨a, da, D, m, .none, b3, b5, b6, b7, b8, b9⟩ _ _ _ ⟨(l3.trans m4) _ _ ha, (km.mono x1.le).mono (l3.trans m4), rfl, rfl, hv3.mono m4, hv5.mono m5, hv6.mono m6, hv7.mono m7, hv8.mono m8, hv9, ns4⟩ fj hu lj
in #guard_msgs in open Nat
end
section
variable {A : Around} {h₀ h : Heap} {F₀ F : Fz} {W : List Addr} {mu mu' : Mu} {tk : Nat}
theorem hund_q : Dq 2 1 (1 / 100) := ⟨1, by rw [hund]; grind, by decide⟩ in
theorem c_stretched {x : CE} {s : TS} {vw : Value} {y : Rat} {P e : Nat} {Q : Value → Shared → Prop} (hR : Room 16 A) (f : Fm h₀ F₀ W mu F h) (t : Tk (x.cells prog w) (x.cells prog w) mu mu) (cs : CsV prog w F x s) (kw : DecV F vw y) (qw : Dq P e y) (qz : Dq 1 10 s.Tz) (he : e ≤ 100000)
  (ret : ∀ v' F' h' tk', DecV F' v' (y * s.Tz * (1 / 100)) → Fm h₀ F₀ W mu F' h' → Le F F' → Q v' ⟨h', g, d, tk', os⟩) : wpAny (model prog w) A (call (.ref 502) [.ref x.a, vw]) Q E ⟨h, g, d, tk, os⟩ := by
 obtain ⟨bw, rfl⟩ := kw.ref
 have ho := cs.obj
 have hz := cs.Tz
 refine r_use (enter ["self", "way"] [] [("Decimal", .ref 167)] [("self", some (.ref x.a)), ("way", some (.ref bw))] hR f (f.take t) (by unfold K; k_is) (by unfold K; k_is) (BindsTo.of_eq rfl) rfl rfl (by decide) (by decide) (by decide) (Ga.all (.cons (gv_Decimal) .nil)) rfl rfl rfl (by decide) rfl ?_)
 intro env h2 tk2 ok f2 hR2
 k_extra "sg"
 k_extra "cTimes"
 case d1 => exact qw
 case d2 => exact qz
 case hq => k_extra "om"
 intro v3 F3 h3 tk3 hv3 f3 l3
 obtain ⟨b3, rfl⟩ := hv3.ref
 k_extra "sg"
 k_extra "callk"
 k_extra "sg"
 k_extra "cDec"
 case hx => exact (by rw [hund]; grind : ((1 : Int) : Rat) = (1 / 100) * 10 ^ 2)
 intro v4 F4 h4 tk4 hv4 f4 l4
 k_extra "sg"
 k_extra "cTimes"
 case d1 => exact qw.mul qz
 case d2 => exact hund_q
 case hq => k_extra "om"
 intro v5 F5 h5 tk5 hv5 f5 l5
 k_extra "sg"
 exact ret _ _ _ _ hv5 (f.back t f5).1 (f.back t f5).2
in #guard_msgs in open Nat
end
section
variable {A : Around} {h₀ h : Heap} {F₀ F : Fz} {W : List Addr} {mu mu' : Mu} {tk : Nat}
theorem shift_mul (y : Rat) (pl : M6) : (M6.shift y 0).mul pl = ⟨pl.a, pl.b, pl.c, pl.d, pl.e + (pl.a * y + pl.c * 0), pl.f + (pl.b * y + pl.d * 0)⟩ := by
 show M6.mk (1 * pl.a + 0 * pl.c) (1 * pl.b + 0 * pl.d) (0 * pl.a + 1 * pl.c) (0 * pl.b + 1 * pl.d) (y * pl.a + 0 * pl.c + pl.e) (y * pl.b + 0 * pl.d + pl.f) = _
 congr 1 <;> grind
in #guard_msgs in open Nat
theorem c_along {vp vw : Value} {pl : M6} {y : Rat} {p q n r e : Nat} {Q : Value → Shared → Prop} (hR : Room 20 A) (f : Fm h₀ F₀ W mu F h) (kp : MatV F vp pl) (kw : DecV F vw y) (qp : Mq p q n pl) (qw : Dq r e y) (hp : p + r ≤ 40) (hq : q ≤ 40) (hn : n + e ≤ 300000)
  (ret : ∀ v' F' h' tk', MatV F' v' ((M6.shift y 0).mul pl) → Fm h₀ F₀ W mu F' h' → Le F F' → Q v' ⟨h', g, d, tk', os⟩) : wpAny (model prog w) A (call (.ref 523) [vp, vw]) Q E ⟨h, g, d, tk, os⟩ := by
 have t : Tk [] [] mu mu := .nil
 rw [shift_mul] at ret
 obtain ⟨bw, rfl⟩ := kw.ref
 obtain ⟨om, dm, aam, abm, acm, adm, aem, afm, rfl, hmo, hmd, hma, hmb, hmc, hmdd, hme, hmf⟩ := id kp
 refine r_use (enter ["place", "way"] ["right", "up"] [("Matrix", .ref 360)] [("place", some (.ref om)), ("way", some (.ref bw)), ("right", none), ("up", none)] hR f (f.take t) (by unfold K; k_is) (by unfold K; k_is) (BindsTo.of_eq rfl) rfl rfl (by decide) (by decide) (by decide) (Ga.all (.cons (gv_Matrix) .nil)) rfl rfl rfl (by decide) rfl ?_)
 intro env h2 tk2 ok f2 hR2
 k_extra "sg"
 k_extra "cShifted"
 case qm => exact qp
 case qx => exact qw
 case qy => exact Dq.zero
 case hp => exact hp
 case hn => k_extra "om"
 intro T b1 b2 F3 h3 tk3 eT hb1 hb2 f3 l3
 k_extra "un"
 k_extra "sg"
 k_extra "callk"
 k_extra "sg"
 k_extra "cPlus"
 case d1 => exact qp.e.to hq (Nat.le_refl _)
 case d2 => exact ((qp.a.mul qw).up40 hp).add ((qp.c.mul (Dq.zero (p := r) (e := e))).up40 hp)
 case hp => exact Nat.le_refl _
 case hq => k_extra "om"
 intro v4 F4 h4 tk4 hv4 f4 l4
 k_extra "sg"
 k_extra "cPlus"
 case d1 => exact qp.f.to hq (Nat.le_refl _)
 case d2 => exact ((qp.b.mul qw).up40 hp).add ((qp.d.mul (Dq.zero (p := r) (e := e))).up40 hp)
 case hp => exact Nat.le_refl _
 case hq => k_extra "om"
 intro v5 F5 h5 tk5 hv5 f5 l5
 k_extra "sg"
 have na : DecV F5 (.ref aam) pl.a := by k_extra "DecV"
 have nb : DecV F5 (.ref abm) pl.b := by k_extra "DecV"
 have nc : DecV F5 (.ref acm) pl.c := by k_extra "DecV"
 have nd : DecV F5 (.ref adm) pl.d := by k_extra "DecV"
 refine' c_mk_Mat (M := ⟨pl.a, pl.b, pl.c, pl.d, pl.e + (pl.a * y + pl.c * 0), pl.f + (pl.b * y + pl.d * 0)⟩) ?R ?f ?n0 ?n1 ?n2 ?n3 ?n4 ?n5 ?q
 case f => with_reducible assumption
 case R => k_extra "room"
 case n0 => exact na.num
 case n1 => exact nb.num
 case n2 => exact nc.num
 case n3 => exact nd.num
 case n4 => exact (hv4.mono l5).num
 case n5 => exact hv5.num
 intro v98 F98 h98 tk98 hv98 f98 l98
 k_extra "sg"
 exact ret _ _ _ _ hv98 (f.back t f98).1 (f.back t f98).2
in #guard_msgs in open Nat
end
section
variable {A : Around} {h₀ h : Heap} {F₀ F : Fz} {W : List Addr} {mu mu' : Mu} {tk : Nat}
theorem c_advance {x : CE} {s : TS} {vc : Value} {c : Int} {cc N : Nat} {Q : Value → Shared → Prop} (hR : Room 20 A) (f : Fm h₀ F₀ W mu F h) (t : Tk (x.cells prog w) (x.cells prog w) mu mu) (cs : CsV prog w F x s) (set : s.set = true) (qs : TsQ cc N s) (pv : CodeV F vc c) (oc : okI c)
  (ret : ∀ T b1 b2 F' h' tk', F' T = some (tup [.ref b1, .ref b2]) → DecV F' (.ref b1) (way s c) → DecV F' (.ref b2) (wd s.font c * s.size * s.Tz * (1 / 100)) → Fm h₀ F₀ W mu F' h' → Le F F' → Q (.ref T) ⟨h', g, d, tk', os⟩) : wpAny (model prog w) A (call (.ref 516) [.ref x.a, vc]) Q E ⟨h, g, d, tk, os⟩ := by
 have ho := cs.obj
 have hz := cs.Tz
 have hs := cs.size
 have hc := cs.Tc
 have hw := cs.Tw
 have hff := cs.hf
 have hf := cs.font
 rw [if_pos set] at hf
 obtain ⟨fa, fda, nm, um, rw0, un, st, dv, td, ef, hfa, hfda, _⟩ := id hf
 obtain ⟨T, t1, t2, rfl, hT⟩ := id pv
 have way_eq : way s c = (wd s.font c * s.size + s.Tc + (if c = 32 then s.Tw else 0)) * s.Tz * (1 / 100) := by unfold way; grind
 rw [way_eq] at ret
 refine r_use (enter ["state", "code"] ["bare", "whole"] [] [("state", some (.ref x.a)), ("code", some (.ref T)), ("bare", none), ("whole", none)] hR f (f.take t) (by unfold K; k_is) (by unfold K; k_is) (BindsTo.of_eq rfl) rfl rfl (by decide) (by decide) (by decide) (Ga.all .nil) rfl rfl rfl (by decide) rfl ?_)
 intro env h2 tk2 ok f2 hR2
 k_extra "sg"
 rw [ef]
 have hf' : FontV prog w F (.ref fa) s.font := ef ▸ hf
 k_extra "sg"
 k_extra "cFwidth"
 case fv => exact hf'
 case pv => exact ⟨T, t1, t2, rfl, hT⟩
 case oc => exact oc
 intro v3 F3 h3 tk3 hv3 f3 l3
 obtain ⟨b3, rfl⟩ := hv3.ref
 have q0 := wd_q s.font c
 k_extra "sg"
 k_extra "cTimes"
 case d1 => exact q0
 case d2 => exact qs.size
 case hq => decide
 intro v4 F4 h4 tk4 hv4 f4 l4
 obtain ⟨b4, rfl⟩ := hv4.ref
 have q1 : Dq 4 20 (wd s.font c * s.size) := q0.mul qs.size
 have q2 : Dq 4 22 s.Tc := qs.Tc.to (by decide) (by decide)
 have q3 : Dq 4 22 s.Tw := qs.Tw.to (by decide) (by decide)
 k_extra "sg"
 k_extra "cPlus"
 case d1 => exact q1
 case d2 => exact q2
 case hp => decide
 case hq => decide
 intro v5 F5 h5 tk5 hv5 f5 l5
 obtain ⟨b5, rfl⟩ := hv5.ref
 k_extra "sg"
 k_extra "mkt"
 intro T6 F6 h6 f6 l6 e6
 refine r_eqT hR2 f6 (.f ((((l3.trans l4).trans l5).trans l6) _ _ hT)) (.f e6) ?_
 k_extra "sg"
 refine ite_b (fun c1 => ?_) (fun c1 => ?_)
 ·have c32 : c = 32 := by simpa using c1
  rw [if_pos c32] at ret
  k_extra "sg"
  k_extra "cPlus"
  case d1 => exact q1.add q2
  case d2 => exact q3
  case hp => decide
  case hq => decide
  intro v10 F10 h10 tk10 hv10 f10 l10
  obtain ⟨b10, rfl⟩ := hv10.ref
  k_extra "sg"
  k_extra "cStr"
  case cs => exact cs.mono ((((l3.trans l4).trans l5).trans l6).trans l10)
  case qw => exact (q1.add q2).add q3
  case qz => exact qs.Tz
  case he => decide
  intro v7 F7 h7 tk7 hv7 f7 l7
  obtain ⟨b7, rfl⟩ := hv7.ref
  k_extra "sg"
  k_extra "cStr"
  case cs => exact (cs.mono ((((l3.trans l4).trans l5).trans l6).trans l10)).mono l7
  case qw => exact q1
  case qz => exact qs.Tz
  case he => decide
  intro v8 F8 h8 tk8 hv8 f8 l8
  obtain ⟨b8, rfl⟩ := hv8.ref
  k_extra "sg"
  k_extra "mkt"
  intro T9 F9 h9 f9 l9 e9
  k_extra "sg"
  refine ret T9 b7 b8 F9 _ _ e9 ?_ (hv8.mono l9) (f.back t f9).1 (f.back t f9).2
  exact (hv7.mono l8).mono l9
 ·have c32 : ¬ c = 32 := by simpa using c1
  rw [if_neg c32, Rat.add_zero] at ret
  k_extra "sg"
  k_extra "cStr"
  case cs => exact cs.mono (((l3.trans l4).trans l5).trans l6)
  case qw => exact q1.add q2
  case qz => exact qs.Tz
  case he => decide
  intro v7 F7 h7 tk7 hv7 f7 l7
  obtain ⟨b7, rfl⟩ := hv7.ref
  k_extra "sg"
  k_extra "cStr"
  case cs => exact (cs.mono (((l3.trans l4).trans l5).trans l6)).mono l7
  case qw => exact q1
  case qz => exact qs.Tz
  case he => decide
  intro v8 F8 h8 tk8 hv8 f8 l8
  obtain ⟨b8, rfl⟩ := hv8.ref
  k_extra "sg"
  k_extra "mkt"
  intro T9 F9 h9 f9 l9 e9
  k_extra "sg"
  refine ret T9 b7 b8 F9 _ _ e9 ?_ (hv8.mono l9) (f.back t f9).1 (f.back t f9).2
  exact (hv7.mono l8).mono l9
in #guard_msgs in open Nat
end
noncomputable def goneOf (s : TS) : List Int → Rat
  | [] => 0
  | c :: r => way s c + goneOf s r
theorem goneOf_snoc (s : TS) (c : Int) : ∀ l, goneOf s (l ++ [c]) = goneOf s l + way s c
 | [] => by show way s c + 0 = 0 + way s c; grind
 | x :: l => by show way s x + goneOf s (l ++ [c]) = way s x + goneOf s l + way s c; rw [goneOf_snoc s c l]; grind in
theorem gone_q {c N : Nat} {s : TS} (q : TsQ c N s) : ∀ l : List Int, Dq 7 (44 + l.length) (goneOf s l)
 | [] => Dq.zero
 | x :: l => ((way_q q x).add (gone_q q l)).mono (by rw [List.length_cons]; k_extra "om")
in #guard_msgs in open Nat
theorem shift_shift (x y : Rat) (pl : M6) : (M6.shift x 0).mul ((M6.shift y 0).mul pl) = (M6.shift (y + x) 0).mul pl := by
 rw [shift_mul, shift_mul, shift_mul]
 congr 1 <;> grind in
theorem showP_gone (s : TS) : ∀ (pl : M6) (l : List Int), showP s pl l = (M6.shift (goneOf s l) 0).mul pl
 | pl, [] => by
  rw [shift_mul]
  show pl = ⟨pl.a, pl.b, pl.c, pl.d, pl.e + (pl.a * 0 + pl.c * 0), pl.f + (pl.b * 0 + pl.d * 0)⟩
  cases pl
  congr 1 <;> grind
 | pl, c :: l => by
  show showP s (placeOf s pl c) l = _
  rw [showP_gone s _ l]
  show (M6.shift (goneOf s l) 0).mul ((M6.shift (way s c) 0).mul pl) = (M6.shift (way s c + goneOf s l) 0).mul pl
  rw [shift_shift]
in #guard_msgs in open Nat
noncomputable def rowC (s : TS) (o : M6) (G : Rat) (c : Int) : Row := ⟨gtext s.font c, o.a * G + o.c * s.Ts + o.e, o.b * G + o.d * s.Ts + o.f, o.a * (wd s.font c * s.size * s.Tz * (1 / 100)) + o.c * 0, o.b * 0 + o.d * s.size⟩
theorem row_gone (s : TS) (pl : M6) (G : Rat) (c : Int) : rowOf s ((M6.shift G 0).mul pl) c = rowC s (pl.mul s.ctm) G c := by
 rw [shift_mul]
 unfold rowOf rowC ontoL inner across M6.mul
 dsimp only
 congr 1 <;> grind
in #guard_msgs in open Nat
inductive GlyV (F : Fz) (v : Value) (r : Row) : Prop
  | mk (o dd tt ax ay aw az) (e0 : v = .ref o) (e1 : F o = some (Raw (instObj 449 dd))) (e2 : F dd = some (idc [("text", some (.str r.text tt)), ("x", some (.ref ax)), ("y", some (.ref ay)), ("width", some (.ref aw)), ("size", some (.ref az))])) (e3 : DecV F (.ref ax) r.x) (e4 : DecV F (.ref ay) r.y) (e5 : DecV F (.ref aw) r.width) (e6 : DecV F (.ref az) r.size) : GlyV F v r
theorem GlyV.mono {F F' : Fz} (l : Le F F') {v : Value} {r : Row} (h : GlyV F v r) : GlyV F' v r := by
 obtain ⟨o, dd, tt, ax, ay, aw, az, e, h1, h2, a, b, c, d⟩ := h
 exact ⟨o, dd, tt, ax, ay, aw, az, e, l _ _ h1, l _ _ h2, a.mono l, b.mono l, c.mono l, d.mono l⟩
in #guard_msgs in open Nat
section
variable {A : Around} {h₀ h : Heap} {F₀ F : Fz} {W : List Addr} {mu mu' : Mu} {tk : Nat}
inductive ShL (x : CE) (om o3 b2 D vg : Addr) (bs : Array UInt8) (tb : Tok) (ls : Fs) : Prop
  | mk (p1 p2 p3 p4 p5) (e : ls = ([("state", some (.ref x.a)), ("place", some (.ref om)), ("octets", some (.bytes bs tb)), ("onto", some (.ref o3)), ("up", some (.ref b2)), ("gone", some (.ref vg)), ("found", some (.ref D)), ("code", p1), ("whole", p2), ("bare", p3), ("x", p4), ("y", p5)] : Fs)) : ShL x om o3 b2 D vg bs tb ls
inductive JSh (x : CE) (om o3 b2 D : Addr) (bs : Array UInt8) (tb : Tok) (G : Rat) (R : List Row) (ls : Fs) (mu : Mu) (F' : Fz) : Prop
  | mk (vg : Addr) (gs : List Value) (a : ShL x om o3 b2 D vg bs tb ls) (em : mu = ((D, lst gs) :: x.cells prog w : Mu)) (h1 : DecV F' (.ref vg) G) (h2 : Al (GlyV F') gs R) : JSh x om o3 b2 D bs tb G R ls mu F'
theorem c_shown {x : CE} {s : TS} {vp : Value} {pl : M6} {bs : Array UInt8} {tb : Tok} {cc N : Nat} {Q : Value → Shared → Prop} (hR : Room 28 A) (f : Fm h₀ F₀ W mu F h) (t : Tk (x.cells prog w) (x.cells prog w) mu mu) (cs : CsV prog w F x s) (set : s.set = true) (qs : TsQ cc N s) (kp : MatV F vp pl) (qp : Mq 1 10 N pl) (ob : Oct bs) (hc : cc ≤ 24) (hN : N ≤ 100000)
  (ret : ∀ T D gs vg F' h' tk', F' T = some (tup [.ref D, .ref vg]) → F' D = some (lst gs) → Al (GlyV F') gs (showR s pl (codesOf bs)) → DecV F' (.ref vg) (goneOf s (codesOf bs)) → Fm h₀ F₀ W mu F' h' → Le F F' → Q (.ref T) ⟨h', g, d, tk', os⟩) : wpAny (model prog w) A (call (.ref 530) [.ref x.a, vp, .bytes bs tb]) Q E ⟨h, g, d, tk, os⟩ := by
 have ho := cs.obj
 have hm := cs.ctm
 have hs := cs.size
 have hr := cs.Ts
 have hff := cs.hf
 have hf := cs.font
 rw [if_pos set] at hf
 obtain ⟨fa, fda, nm, um, rw0, un, st, dv, td, ef, hfa, hfda, _⟩ := id hf
 have hf' : FontV prog w F (.ref fa) s.font := ef ▸ hf
 obtain ⟨om, dm, aam, abm, acm, adm, aem, afm, rfl, _⟩ := id kp
 have qo : Mq (1 + cc) (10 + cc) (2 * N + 200) (pl.mul s.ctm) := Mq.mul qp qs.ctm rfl (by k_extra "om") (by k_extra "om") (by k_extra "om")
 refine r_use (enter ["state", "place", "octets"] ["onto", "up", "gone", "found", "code", "whole", "bare", "x", "y"] [("Decimal", .ref 167), ("advance", .ref 516), ("Glyph", .ref 449)] [("state", some (.ref x.a)), ("place", some (.ref om)), ("octets", some (.bytes bs tb)), ("onto", none), ("up", none), ("gone", none), ("found", none), ("code", none), ("whole", none), ("bare", none), ("x", none), ("y", none)] hR f (f.take t) (by unfold K; k_is) (by unfold K; k_is) (BindsTo.of_eq rfl) rfl rfl (by decide) (by decide) (by decide) (Ga.all (.cons (gv_Decimal) (.cons (gv_advance) (.cons (gv_Glyph) .nil)))) rfl rfl rfl (by decide) rfl ?_)
 intro env h2 tk2 ok f2 hR2
 k_extra "sg"
 rw [ef]
 k_extra "sg"
 k_extra "cMtimes"
 case qm => exact qp
 case qn => exact qs.ctm
 case hp => k_extra "om"
 case hq1 => k_extra "om"
 case hq2 => k_extra "om"
 case hn => k_extra "om"
 intro v3 F3 h3 tk3 hv3 f3 l3
 obtain ⟨o3, d3, aa3, ab3, ac3, ad3, ae3, af3, rfl, _⟩ := id hv3
 k_extra "sg"
 k_extra "cShifted"
 case qm => exact qo
 case qx => exact Dq.zero (p := 1) (e := 10)
 case qy => exact qs.size
 case hp => k_extra "om"
 case hn => k_extra "om"
 intro T4 b1 b2 F4 h4 tk4 eT4 hb1 hb2 f4 l4
 k_extra "sg"
 k_extra "callk"
 k_extra "sg"
 k_extra "cDec"
 case hx => exact (by rw [Rat.zero_mul]; rfl : ((0 : Int) : Rat) = 0 * 10 ^ 0)
 intro v5 F5 h5 tk5 hv5 f5 l5
 obtain ⟨b5, rfl⟩ := hv5.ref
 k_extra "sg"
 k_extra "mklM"
 intro D h6 f6 oD
 k_extra "sg"
 rw [ef]
 k_extra "sg"
 k_extra "cCodes"
 case fv => exact hf'.mono ((l3.trans l4).trans l5)
 case ob => exact ob
 intro DC us F7 h7 tk7 e7 hus f7 l7
 k_extra "sg"
 refine for_list (fun i => JSh x om o3 b2 D bs tb (goneOf s ((codesOf bs).take i)) (showR s pl ((codesOf bs).take i)))
  (by k_extra "hd") e7 (by assumption) ⟨b5, [], ⟨_, _, _, _, _, rfl⟩, rfl, hv5.mono l7, .nil⟩ ?_ ?_ (fun I v => rfl)
 ·rintro I i v ls' mu' F8 h8 tk8 hi hv ⟨vg, gs, ⟨p1, p2, p3, p4, p5, rfl⟩, rfl, hvg, hgs⟩ l8 f8
  obtain ⟨c, hc', kc⟩ := hus.at hv
  have oc : okI c := ob.okL.1 c (List.mem_of_getElem? hc')
  have et : (codesOf bs).take (i + 1) = (codesOf bs).take i ++ [c] := by rw [List.take_add_one, hc']; rfl
  have ll : ((codesOf bs).take i).length ≤ 2 := by have := ob.sz; rw [List.length_take, codes_len]; k_extra "om"
  have qg : Dq 7 60 (goneOf s ((codesOf bs).take i)) := (gone_q qs _).mono (by k_extra "om")
  have gl : gs.length ≤ 2 := by rw [hgs.len, showR_len]; exact ll
  rw [et, goneOf_snoc, showR_snoc, showP_gone, row_gone]
  generalize goneOf s ((codesOf bs).take i) = G at *
  generalize showR s pl ((codesOf bs).take i) = rs at *
  obtain ⟨TC, tc1, tc2, rfl, hTC⟩ := id kc
  k_extra "sg"
  k_extra "callk"
  k_extra "sg"
  k_extra "cAdv"
  case cs => exact cs.mono ((((l3.trans l4).trans l5).trans l7).trans l8)
  case set => exact set
  case qs => exact qs
  case pv => exact kc.mono l8
  case oc => exact oc
  intro T9 c9 c10 F9 h9 tk9 eT9 hb9 hb10 f9 l9
  k_extra "un"
  k_extra "sg"
  k_extra "cApplied"
  case qm => exact qo
  case qx => exact qg
  case qy => exact qs.Ts.to (by decide) (by decide)
  case hp => k_extra "om"
  case hq => k_extra "om"
  case hn => k_extra "om"
  intro T10 c11 c12 F10 h10 tk10 eT10 hb11 hb12 f10 l10
  k_extra "un"
  k_extra "sg"
  k_extra "gmA"
  k_extra "cwB"
  k_extra "sg"
  k_extra "callk"
  k_extra "sg"
  rw [ef]
  k_extra "sg"
  k_extra "cFtext"
  case fv => exact hf'.mono ((((((l3.trans l4).trans l5).trans l7).trans l8).trans l9).trans l10)
  case pv => exact kc.mono ((l8.trans l9).trans l10)
  case oc => exact oc
  intro tt F11 h11 tk11 f11 l11
  k_extra "sg"
  k_extra "cShifted"
  case qm => exact qo
  case qx => exact (((wd_q s.font c).mul qs.size).mul qs.Tz).mul hund_q
  case qy => exact Dq.zero
  case hp => k_extra "om"
  case hn => k_extra "om"
  intro T12 c13 c14 F12 h12 tk12 eT12 hb13 hb14 f12 l12
  k_extra "sg"
  k_extra "mkGlyph"
  intro go gd F13 h13 tk13 ego egd f13 l13
  k_extra "sg"
  k_extra "app"
  case hz => k_extra "om"
  k_extra "sg"
  k_extra "cPlus"
  case d1 => exact qg
  case d2 => exact way_q qs c
  case hp => decide
  case hq => decide
  intro v14 F14 h14 tk14 hv14 f14 l14
  obtain ⟨b14, rfl⟩ := hv14.ref
  k_extra "sg"
  rename Fm h F _ _ _ _ => fe
  have k13 : DecV F14 (.ref c13) (rowC s (pl.mul s.ctm) G c).width := (hb13.mono l13).mono l14
  have k11 : DecV F14 (.ref c11) (rowC s (pl.mul s.ctm) G c).x := (((hb11.mono l11).mono l12).mono l13).mono l14
  have k12 : DecV F14 (.ref c12) (rowC s (pl.mul s.ctm) G c).y := (((hb12.mono l11).mono l12).mono l13).mono l14
  have kb2 : DecV F14 (.ref b2) (rowC s (pl.mul s.ctm) G c).size := ((((((((hb2.mono l5).mono l7).mono l8).mono l9).mono l10).mono l11).mono l12).mono l13).mono l14
  refine ⟨_, _, F14, _, _, rfl, fe, ((((((l8.trans l9).trans l10).trans l11).trans l12).trans l13).trans l14), b14, gs ++ [.ref go], ⟨_, _, _, _, _, rfl⟩, rfl, hv14, ?_⟩
  exact (hgs.mono fun v r => GlyV.mono (((((l9.trans l10).trans l11).trans l12).trans l13).trans l14)).app (.cons ⟨go, gd, tt, c11, c12, c13, b2, rfl, l14 _ _ ego, l14 _ _ egd, k11, k12, k13, kb2⟩ .nil)
 ·rintro ls' mu' F8 h8 tk8 ⟨vg, gs, ⟨p1, p2, p3, p4, p5, rfl⟩, rfl, hvg, hgs⟩ l8 f8
  have ul : us.length = (codesOf bs).length := hus.len
  rw [ul, List.take_length] at hvg hgs
  k_extra "sg"
  k_extra "mkt"
  intro T9 F9 h9 f9 l9 e9
  k_extra "sg"
  have ff := f9.freeze (.tail .head) oD.h0 oD.nw
  have lz : Le F9 (F9.set D (lst gs)) := Fz.le_set (f9.mus.has (D, _) (.tail _ (.head _))).2
  exact ret T9 D gs vg _ _ _ (lz _ _ e9) Fz.set_self (hgs.mono fun v r => GlyV.mono (l9.trans lz)) ((hvg.mono l9).mono lz) (f.back t ff).1 (f.back t ff).2
in #guard_msgs in open Nat
end
noncomputable abbrev tourF (vs : Value) (sa pl : Addr) (vr vp : Value) (fo : Addr) : Fs := [("sheet", some vs), ("state", some (.ref sa)), ("pile", some (.ref pl)), ("row", some vr), ("place", some vp), ("found", some (.ref fo))]
section
variable {A : Around} {h₀ h : Heap} {F₀ F : Fz} {W : List Addr} {mu mu' : Mu} {tk : Nat}
theorem c_tset {ta td pl fo sa : Addr} {vs vr vp v : Value} {Q : Value → Shared → Prop} (hR : Room 4 A) (f : Fm h₀ F₀ W mu F h) (ho : F ta = some (Raw (instObj 589 td))) (t : Tk [(td, idc (tourF vs sa pl vr vp fo))] [(td, idc (tourF vs sa pl v v fo))] mu mu')
  (ret : ∀ F' h' tk', Fm h₀ F₀ W mu' F' h' → Le F F' → Q .none ⟨h', g, d, tk', os⟩) : wpAny (model prog w) A (call (.ref 586) [.ref ta, v]) Q E ⟨h, g, d, tk, os⟩ := by
 refine r_use (enter ["self", "one"] [] [] [("self", some (.ref ta)), ("one", some (v))] hR f (f.take t) (by unfold K; k_is) (by unfold K; k_is) (BindsTo.of_eq rfl) rfl rfl (by decide) (by decide) (by decide) (Ga.all .nil) rfl rfl rfl (by decide) rfl ?_)
 intro env h2 tk2 ok f2 hR2
 k_extra "sf"
 k_extra "sat"
 k_extra "sf"
 k_extra "sat"
 k_extra "sf"
 rename Fm h F _ _ _ _ => fe
 exact ret _ _ _ (f.back t fe).1 (f.back t fe).2
in #guard_msgs in open Nat
theorem c_tnext {ta td pl fo sa : Addr} {vs vr vp vx vy : Value} {row : M6} {x y : Rat} {N : Nat} {Q : Value → Shared → Prop} (hR : Room 26 A) (f : Fm h₀ F₀ W mu F h) (ho : F ta = some (Raw (instObj 589 td))) (t : Tk [(td, idc (tourF vs sa pl vr vp fo))] [(td, idc (tourF vs sa pl vr vp fo))] mu mu)
  (kr : MatV F vr row) (qr : Mq 1 10 N row) (kx : NumV F vx x) (ky : NumV F vy y) (qx : Dq 1 10 x) (qy : Dq 1 10 y) (hN : N ≤ 300000)
  (ret : ∀ o F' h' tk', Ext F h [td] F' h' → Mus F' h' [(td, idc (tourF vs sa pl (.ref o) (.ref o) fo))] → MatV F' (.ref o) ((M6.shift x y).mul row) → Q .none ⟨h', g, d, tk', os⟩) : wpAny (model prog w) A (call (.ref 572) [.ref ta, vx, vy]) Q E ⟨h, g, d, tk, os⟩ := by
 obtain ⟨om, dm, aam, abm, acm, adm, aem, afm, rfl, _⟩ := id kr
 refine r_use (enter ["self", "right", "up"] [] [("translation", .ref 378)] [("self", some (.ref ta)), ("right", some (vx)), ("up", some (vy))] hR f (f.take t) (by unfold K; k_is) (by unfold K; k_is) (BindsTo.of_eq rfl) rfl rfl (by decide) (by decide) (by decide) (Ga.all (.cons (gv_translation) .nil)) rfl rfl rfl (by decide) rfl ?_)
 intro env h2 tk2 ok f2 hR2
 k_extra "sg"
 k_extra "callk"
 k_extra "sg"
 k_extra "cTranslation"
 intro v3 F3 h3 tk3 hv3 f3 l3
 obtain ⟨o3, d3, aa3, ab3, ac3, ad3, ae3, af3, rfl, _⟩ := id hv3
 k_extra "sg"
 k_extra "cMtimes"
 case qm => exact shift_q qx qy (by decide)
 case qn => exact qr
 case hp => decide
 case hq1 => decide
 case hq2 => decide
 case hn => k_extra "om"
 intro v4 F4 h4 tk4 hv4 f4 l4
 obtain ⟨o4, d4, aa4, ab4, ac4, ad4, ae4, af4, rfl, _⟩ := id hv4
 k_extra "sg"
 k_extra "sat"
 k_extra "sg"
 k_extra "sat"
 k_extra "sg"
 rename Fm h F _ _ _ _ => fe
 exact ret o4 F4 _ _ fe.leave.1 fe.leave.2 hv4
in #guard_msgs in open Nat
end
section
variable {A : Around} {h₀ h : Heap} {F₀ F : Fz} {W : List Addr} {mu mu' : Mu} {tk : Nat}
theorem c_tfeed {ta td pl fo : Addr} {vs vr vp : Value} {x : CE} {s : TS} {row : M6} {cc N : Nat} {Q : Value → Shared → Prop} (hR : Room 28 A) (f : Fm h₀ F₀ W mu F h) (ho : F ta = some (Raw (instObj 589 td)))
  (t : Tk ((td, idc (tourF vs x.a pl vr vp fo)) :: x.cells prog w) ((td, idc (tourF vs x.a pl vr vp fo)) :: x.cells prog w) mu mu) (cs : CsV prog w F x s) (qs : TsQ cc N s)
  (kr : MatV F vr row) (qr : Mq 1 10 N row) (hN : N ≤ 300000)
  (ret : ∀ o F' h' tk', Ext F h (td :: adr (x.cells prog w)) F' h' → Mus F' h' ((td, idc (tourF vs x.a pl (.ref o) (.ref o) fo)) :: x.cells prog w) → MatV F' (.ref o) ((M6.shift 0 (-s.TL)).mul row) → Q .none ⟨h', g, d, tk', os⟩) : wpAny (model prog w) A (call (.ref 579) [.ref ta]) Q E ⟨h, g, d, tk, os⟩ := by
 have hso := cs.obj
 have hl := cs.TL
 refine r_use (enter ["self"] [] [("Decimal", .ref 167)] [("self", some (.ref ta))] hR f (f.take t) (by unfold K; k_is) (by unfold K; k_is) (BindsTo.of_eq rfl) rfl rfl (by decide) (by decide) (by decide) (Ga.all (.cons (gv_Decimal) .nil)) rfl rfl rfl (by decide) rfl ?_)
 intro env h2 tk2 ok f2 hR2
 k_extra "sg"
 k_extra "callk"
 k_extra "sg"
 k_extra "cDec"
 case hx => exact (by rw [Rat.zero_mul]; rfl : ((0 : Int) : Rat) = 0 * 10 ^ 0)
 intro v3 F3 h3 tk3 hv3 f3 l3
 obtain ⟨b3, rfl⟩ := hv3.ref
 k_extra "sg"
 k_extra "cNeg"
 intro v4 F4 h4 tk4 hv4 f4 l4
 obtain ⟨b4, rfl⟩ := hv4.ref
 k_extra "sg"
 k_extra "cTnext"
 case qr => exact qr
 case qx => exact Dq.zero
 case qy => exact qs.TL.neg
 case hN => exact hN
 intro o F5 h5 tk5 xx m hv
 rename Fm h F _ _ _ _ => fc
 have f6 := fc.tkW m xx rfl (by k_extra "tk")
 k_extra "sg"
 exact ret o F5 _ _ f6.leave.1 f6.leave.2 hv
in #guard_msgs in open Nat
theorem c_tshow {ta td pl fo op : Addr} {vs vr : Value} {x : CE} {s : TS} {gs : List Value} {p : M6} {bs : Array UInt8} {tb : Tok} {cc N : Nat} {Q : Value → Shared → Prop} (hR : Room 32 A) (f : Fm h₀ F₀ W mu F h) (ho : F ta = some (Raw (instObj 589 td)))
  (t : Tk ((td, idc (tourF vs x.a pl vr (.ref op) fo)) :: (fo, lst gs) :: x.cells prog w) ((td, idc (tourF vs x.a pl vr (.ref op) fo)) :: (fo, lst gs) :: x.cells prog w) mu mu) (cs : CsV prog w F x s) (set : s.set = true) (qs : TsQ cc N s)
  (kp : MatV F (.ref op) p) (qp : Mq 1 10 N p) (ob : Oct bs) (hc : cc ≤ 24) (hN : N ≤ 100000) (hg : gs.length ≤ 900)
  (ret : ∀ o gs' F' h' tk', Ext F h (td :: fo :: adr (x.cells prog w)) F' h' → Mus F' h' ((td, idc (tourF vs x.a pl vr (.ref o) fo)) :: (fo, lst (gs ++ gs')) :: x.cells prog w) → MatV F' (.ref o) (showP s p (codesOf bs)) → Al (GlyV F') gs' (showR s p (codesOf bs)) → Q .none ⟨h', g, d, tk', os⟩) :
  wpAny (model prog w) A (call (.ref 558) [.ref ta, .bytes bs tb]) Q E ⟨h, g, d, tk, os⟩ := by
 refine r_use (enter ["self", "octets"] ["fresh", "gone"] [("shown_glyphs", .ref 530), ("along", .ref 523)] [("self", some (.ref ta)), ("octets", some (.bytes bs tb)), ("fresh", none), ("gone", none)] hR f (f.take t) (by unfold K; k_is) (by unfold K; k_is) (BindsTo.of_eq rfl) rfl rfl (by decide) (by decide) (by decide) (Ga.all (.cons (gv_shown_glyphs) (.cons (gv_along) .nil))) rfl rfl rfl (by decide) rfl ?_)
 intro env h2 tk2 ok f2 hR2
 k_extra "sg"
 k_extra "callk"
 k_extra "sg"
 k_extra "cShown"
 case cs => exact cs
 case set => exact set
 case qs => exact qs
 case qp => exact qp
 case ob => exact ob
 case hc => exact hc
 case hN => exact hN
 intro T D gs' vg F3 h3 tk3 eT eD hgs hvg f3 l3
 k_extra "un"
 k_extra "sg"
 k_extra "gmE"
 k_extra "cwB"
 k_extra "sg"
 k_extra "ext"
 case hz =>
  have := hgs.len
  rw [showR_len, codes_len] at this
  have := ob.sz
  k_extra "om"
 k_extra "sg"
 k_extra "callk"
 k_extra "sg"
 k_extra "cAlong"
 case qp => exact qp
 case qw => exact gone_q qs _
 case hp => decide
 case hq => decide
 case hn => have := ob.sz; rw [codes_len]; k_extra "om"
 intro v4 F4 h4 tk4 hv4 f4 l4
 obtain ⟨o4, d4, aa4, ab4, ac4, ad4, ae4, af4, rfl, _⟩ := id hv4
 rw [← showP_gone] at hv4
 k_extra "sg"
 k_extra "sat"
 k_extra "sg"
 rename Fm h F _ _ _ _ => fe
 exact ret o4 gs' F4 _ _ fe.leave.1 fe.leave.2 hv4 (hgs.mono fun v r => GlyV.mono l4)
in #guard_msgs in open Nat
end
section
variable {A : Around} {h₀ h : Heap} {F₀ F : Fz} {W : List Addr} {mu mu' : Mu} {tk : Nat}
theorem adj_eq (s : TS) (y : Rat) : s.size * y * (-1 / 1000) * s.Tz * (1 / 100) = adjOf s y := by unfold adjOf; grind in
theorem thou_q : Dq 3 1 (-1 / 1000) := ⟨-1, by rw [thou]; grind, by decide⟩
in #guard_msgs in open Nat
inductive TpL (ta D : Addr) (ls : Fs) : Prop
  | mk (o1 o2) (e : ls = ([("self", some (.ref ta)), ("parts", some (.ref D)), ("part", o1), ("way", o2)] : Fs)) : TpL ta D ls
inductive JTp (ta D td fo pl : Addr) (vr vs : Value) (x : CE) (gs : List Value) (s : WS) (ps : List Part) (i : Nat) (ls : Fs) (mu : Mu) (F' : Fz) : Prop
  | mk (op : Addr) (gs' : List Value) (rs : List Row) (a : TpL ta D ls) (em : mu = ((td, idc (tourF vs x.a pl vr (.ref op) fo)) :: (fo, lst (gs ++ gs')) :: x.cells prog w : Mu)) (h1 : MatV F' (.ref op) (s.parts (ps.take i)).place) (h2 : (s.parts (ps.take i)).rows = s.rows ++ rs) (h3 : Al (GlyV F') gs' rs) (h4 : rs.length ≤ 2 * i) : JTp ta D td fo pl vr vs x gs s ps i ls mu F'
theorem c_tparts {ta td pl fo op D : Addr} {vs vr : Value} {x : CE} {s : WS} {gs us : List Value} {ps : List Part} {cc N : Nat} {Q : Value → Shared → Prop} (hR : Room 34 A) (f : Fm h₀ F₀ W mu F h) (ho : F ta = some (Raw (instObj 589 td)))
  (t : Tk ((td, idc (tourF vs x.a pl vr (.ref op) fo)) :: (fo, lst gs) :: x.cells prog w) ((td, idc (tourF vs x.a pl vr (.ref op) fo)) :: (fo, lst gs) :: x.cells prog w) mu mu) (cs : CsV prog w F x s.st) (set : s.st.set = true) (qs : WsQ cc N s)
  (kp : MatV F (.ref op) s.place) (hD : F D = some (lst us)) (hus : Al (PartV F) us ps) (hok : ∀ p ∈ ps, p.ok) (hpl : ps.length ≤ 2) (hc : cc ≤ 24) (hN : N ≤ 50000) (hg : gs.length ≤ 800)
  (ret : ∀ o gs' F' h' tk', Ext F h (td :: fo :: adr (x.cells prog w)) F' h' → Mus F' h' ((td, idc (tourF vs x.a pl vr (.ref o) fo)) :: (fo, lst (gs ++ gs')) :: x.cells prog w) → MatV F' (.ref o) (s.parts ps).place → (Grow (GlyV F') s (s.parts ps) gs') → Q .none ⟨h', g, d, tk', os⟩) :
  wpAny (model prog w) A (call (.ref 565) [.ref ta, .ref D]) Q E ⟨h, g, d, tk, os⟩ := by
 have hso := cs.obj
 have hz := cs.size
 refine r_use (enter ["self", "parts"] ["part", "way"] [("kind_of", .ref 291), ("Decimal", .ref 167), ("along", .ref 523)] [("self", some (.ref ta)), ("parts", some (.ref D)), ("part", none), ("way", none)] hR f (f.take t) (by unfold K; k_is) (by unfold K; k_is) (BindsTo.of_eq rfl) rfl rfl (by decide) (by decide) (by decide) (Ga.all (.cons (gv_kind_of) (.cons (gv_Decimal) (.cons (gv_along) .nil)))) rfl rfl rfl (by decide) rfl ?_)
 intro env h2 tk2 ok f2 hR2
 k_extra "sg"
 refine for_list (JTp ta D td fo pl vr vs x gs s ps)
  (by k_extra "hd") hD (by assumption) ⟨op, [], [], ⟨_, _, rfl⟩, by rw [List.append_nil], kp, by rw [List.append_nil]; rfl, .nil, Nat.le_refl _⟩ ?_ ?_ (fun I v => rfl)
 ·rintro I i v ls' mu' F3 h3 tk3 hi hv ⟨op3, gs', rs, ⟨o1, o2, rfl⟩, rfl, hp3, hrs, hgs, hrl⟩ l3 f3
  obtain ⟨p, hp, kv⟩ := hus.at hv
  have et : ps.take (i + 1) = ps.take i ++ [p] := by rw [List.take_add_one, hp]; rfl
  have il : i < ps.length := (List.getElem?_eq_some_iff.mp hp).1
  have q3 : WsQ cc (N + 200 * (ps.take i).length) (s.parts (ps.take i)) := qs.parts (fun p hp => hok p (List.mem_of_mem_take hp)) hc
  have q4 : WsQ cc (N + 400) (s.parts (ps.take i)) := q3.to (Nat.le_refl _) (by rw [List.length_take]; k_extra "om")
  have st3 : (s.parts (ps.take i)).st = s.st := parts_st s _
  have qst := q4.st
  rw [st3] at qst
  have pok := hok p (List.mem_of_getElem? hp)
  have gl : (gs ++ gs').length ≤ 810 := by rw [List.length_append, hgs.len]; k_extra "om"
  cases p with
  | str l =>
   have kv' : StrV F v l := kv
   obtain ⟨sa, sda, b, tb, rfl, hsa, hsda, ob, hcl⟩ := id kv'
   k_extra "sg"
   k_extra "callk"
   k_extra "sg"
   k_extra "cKindStr"
   case nv => exact kv'.mono l3
   intro tk0 F4 h4 tk4 f4 l4
   k_extra "sg"
   try k_extra "eqs"
   k_extra "sg"
   k_extra "cTshow"
   case set => exact set
   case qs => exact qst
   case qp => exact q4.place
   case ob => exact ob
   case hc => exact hc
   case hN => k_extra "om"
   case hg => k_extra "om"
   intro o5 g5 F5 h5 tk5 xx m hv5 hg5
   rename Fm h F _ _ _ _ => fc
   have f6 := fc.tkW m xx rfl (by k_extra "tk")
   k_extra "sg"
   refine ⟨_, _, F5, _, _, rfl, f6, (l3.trans l4).trans xx.le, o5, gs' ++ g5, rs ++ showR s.st (s.parts (ps.take i)).place l, ⟨_, _, rfl⟩, by rw [List.append_assoc], ?_, ?_, (hgs.mono fun v r => GlyV.mono (l4.trans xx.le)).app (hcl ▸ hg5), ?_⟩
   ·rw [et, WS.parts_snoc]
    show MatV F5 (.ref o5) (showP (s.parts (ps.take i)).st (s.parts (ps.take i)).place l)
    rw [st3, ← hcl]; exact hv5
   ·rw [et, WS.parts_snoc]
    show (s.parts (ps.take i)).rows ++ showR (s.parts (ps.take i)).st (s.parts (ps.take i)).place l = _
    rw [st3, hrs, List.append_assoc]
   ·have := ob.sz
    rw [List.length_append, showR_len, ← hcl, codes_len]; k_extra "om"
  | num y =>
   have kv' : NumV F v y := kv
   have qy : Dq 1 10 y := pok
   obtain ⟨bz, ez⟩ := hz.ref
   k_extra "sg"
   k_extra "callk"
   k_extra "sg"
   k_extra "cKindN"
   intro kk tk0 F4 h4 tk4 hkk f4 l4
   k_extra "sg"
   rcases hkk with rfl | rfl
   all_goals
    try k_extra "eqs"
    k_extra "sg"
    k_extra "cTimes"
    case d1 => exact qst.size
    case d2 => exact qy
    case hq => decide
    intro v5 F5 h5 tk5 hv5 f5 l5
    obtain ⟨b5, rfl⟩ := hv5.ref
    k_extra "sg"
    k_extra "callk"
    k_extra "sg"
    k_extra "cDec"
    case hx => exact (by rw [thou]; grind : ((-1 : Int) : Rat) = (-1 / 1000) * 10 ^ 3)
    intro v6 F6 h6 tk6 hv6 f6 l6
    k_extra "sg"
    k_extra "cTimes"
    case d1 => exact qst.size.mul qy
    case d2 => exact thou_q
    case hq => decide
    intro v7 F7 h7 tk7 hv7 f7 l7
    obtain ⟨b7, rfl⟩ := hv7.ref
    k_extra "sg"
    k_extra "callk"
    k_extra "sg"
    k_extra "cStr"
    case cs => exact cs.mono ((((l3.trans l4).trans l5).trans l6).trans l7)
    case qw => exact (qst.size.mul qy).mul thou_q
    case qz => exact qst.Tz
    case he => decide
    intro v8 F8 h8 tk8 hv8 f8 l8
    obtain ⟨b8, rfl⟩ := hv8.ref
    rw [adj_eq] at hv8
    k_extra "sg"
    k_extra "cAlong"
    case qp => exact q4.place
    case qw => exact adj_q qst qy
    case hp => decide
    case hq => decide
    case hn => k_extra "om"
    intro v9 F9 h9 tk9 hv9 f9 l9
    obtain ⟨o9, d9, aa9, ab9, ac9, ad9, ae9, af9, rfl, _⟩ := id hv9
    k_extra "sg"
    k_extra "sat"
    k_extra "sg"
    rename Fm h F _ _ _ _ => fe
    refine ⟨_, _, F9, _, _, rfl, fe, (((((l3.trans l4).trans l5).trans l6).trans l7).trans l8).trans l9, o9, gs', rs, ⟨_, _, rfl⟩, rfl, ?_, ?_, hgs.mono fun v r => GlyV.mono (((((l4.trans l5).trans l6).trans l7).trans l8).trans l9), by k_extra "om"⟩
    ·rw [et, WS.parts_snoc]
     show MatV F9 (.ref o9) ((M6.shift (adjOf (s.parts (ps.take i)).st y) 0).mul (s.parts (ps.take i)).place)
     rw [st3]; exact hv9
    ·rw [et, WS.parts_snoc]
     exact hrs
 ·rintro ls' mu' F3 h3 tk3 ⟨op3, gs', rs, ⟨o1, o2, rfl⟩, rfl, hp3, hrs, hgs, hrl⟩ l3 f3
  have ul : us.length = ps.length := hus.len
  rw [ul, List.take_length] at hp3 hrs
  k_extra "sg"
  exact ret op3 gs' F3 _ _ f3.leave.1 f3.leave.2 hp3 ⟨rs, hrs, hgs, by k_extra "om"⟩
in #guard_msgs in open Nat
end
section
variable {A : Around} {h₀ h : Heap} {F₀ F : Fz} {W : List Addr} {mu mu' : Mu} {tk : Nat}
theorem c_array {D : Addr} {vs : List Value} {m : M6} {Q : Value → Shared → Prop} (hR : Room 16 A) (f : Fm h₀ F₀ W mu F h) (hD : F D = some (lst vs)) (k : SixV F vs m)
  (ret : ∀ v F' h' tk', MatV F' v m → Fm h₀ F₀ W mu F' h' → Le F F' → Q v ⟨h', g, d, tk', os⟩) : wpAny (model prog w) A (call (.ref 385) [.ref D]) Q E ⟨h, g, d, tk, os⟩ := by
 have t : Tk [] [] mu mu := .nil
 obtain ⟨va, vb, vc, vd, ve, vf, rfl, na, nb, nc, nd, ne, nf⟩ := k
 refine r_use (enter ["values"] [] [("isinstance", .builtin "isinstance"), ("list", .type "list"), ("len", .builtin "len"), ("Matrix", .ref 360)] [("values", some (.ref D))] hR f (f.take t) (by unfold K; k_is) (by unfold K; k_is) (BindsTo.of_eq rfl) rfl rfl (by decide) (by decide) (by decide) (Ga.all (.cons (gv_isinstance) (.cons (gv_list) (.cons (gv_len) (.cons (gv_Matrix) .nil))))) rfl rfl rfl (by decide) rfl ?_)
 intro env h2 tk2 ok f2 hR2
 k_extra "sg"
 k_extra "callb"
 k_extra "sg"
 k_extra "isi"
 k_extra "sg"
 k_extra "callb"
 k_extra "sg"
 k_extra "lenc"
 k_extra "sg"
 refine ite_f rfl ?_
 k_extra "sg"
 k_extra "callk"
 k_extra "sg"
 refine' c_mk_Mat (M := m) ?R ?f ?n0 ?n1 ?n2 ?n3 ?n4 ?n5 ?q
 case f => with_reducible assumption
 case R => k_extra "room"
 case n0 => exact na
 case n1 => exact nb
 case n2 => exact nc
 case n3 => exact nd
 case n4 => exact ne
 case n5 => exact nf
 intro v98 F98 h98 tk98 hv98 f98 l98
 k_extra "sg"
 exact ret _ _ _ _ hv98 (f.back t f98).1 (f.back t f98).2
in #guard_msgs in open Nat
end
structure WsV (prog : Program) (w : World) (F : Fz) (x : CE) (vr vp : Value) (s : WS) : Prop where
  st : CsV prog w F x s.st
  at' : if s.text = true then ∃ r p, vr = .ref r ∧ vp = .ref p ∧ MatV F (.ref r) s.row ∧ MatV F (.ref p) s.place else vp = .none
theorem WsV.in {prog : Program} {w : World} {F : Fz} {x : CE} {vr vp : Value} {s : WS} (h : WsV prog w F x vr vp s) (e : s.text = true) : ∃ r p, vr = .ref r ∧ vp = .ref p ∧ MatV F (.ref r) s.row ∧ MatV F (.ref p) s.place := by have := h.at'; rwa [if_pos e] at this in
theorem WsV.out {prog : Program} {w : World} {F : Fz} {x : CE} {vr vp : Value} {s : WS} (h : WsV prog w F x vr vp s) (e : s.text = false) : vp = .none := by have := h.at'; rw [e, if_neg Bool.false_ne_true] at this; exact this
in #guard_msgs in open Nat
theorem WsV.mk1 {prog : Program} {w : World} {F : Fz} {x : CE} {r p : Addr} {s : WS} (c : CsV prog w F x s.st) (e : s.text = true) (a : MatV F (.ref r) s.row) (b : MatV F (.ref p) s.place) : WsV prog w F x (.ref r) (.ref p) s := ⟨c, by rw [if_pos e]; exact ⟨r, p, rfl, rfl, a, b⟩⟩ in
theorem WsV.mk0 {prog : Program} {w : World} {F : Fz} {x : CE} {vr : Value} {s : WS} (c : CsV prog w F x s.st) (e : s.text = false) : WsV prog w F x vr .none s := ⟨c, by rw [e, if_neg Bool.false_ne_true]⟩
in #guard_msgs in open Nat
theorem part_row (s : WS) (p : Part) : (s.part p).row = s.row := by cases p <;> rfl in
theorem parts_row : ∀ (s : WS) (l : List Part), (s.parts l).row = s.row
 | _, [] => rfl
 | s, p :: l => (parts_row (s.part p) l).trans (part_row s p) in
theorem part_text (s : WS) (p : Part) : (s.part p).text = s.text := by cases p <;> rfl
in #guard_msgs in open Nat
theorem parts_text : ∀ (s : WS) (l : List Part), (s.parts l).text = s.text
 | _, [] => rfl
 | s, p :: l => (parts_text (s.part p) l).trans (part_text s p)
in #guard_msgs in open Nat
noncomputable abbrev us5 (prog : Program) (w : World) (td : Addr) (vs : Value) (x : CE) (pl : Addr) (vr vp : Value) (fo : Addr) (gs : List Value) : Mu := (td, idc (tourF vs x.a pl vr vp fo)) :: (fo, lst gs) :: x.cells prog w
noncomputable def PRet (prog : Program) (w : World) (td : Addr) (vs : Value) (x : CE) (pl fo : Addr) (gs : List Value) (F : Fz) (h : Heap) (g : Array GenState) (d : Drawn) (os : OsState) (s s' : WS) (Q : Value → Shared → Prop) : Prop :=
  ∀ (x' : CE) (vr' vp' : Value) (gs' : List Value) (F' : Fz) (h' : Heap) (tk' : Nat), x'.a = x.a → x'.da = x.da → x'.sp = x.sp → Ext F h [td, fo, x.da, x.sp] F' h' → Mus F' h' (us5 prog w td vs x' pl vr' vp' fo (gs ++ gs')) → WsV prog w F' x' vr' vp' s' → (Grow (GlyV F') s s' gs') → Q .none ⟨h', g, d, tk', os⟩
theorem no_rows {F : Fz} {s s' : WS} (e : s'.rows = s.rows) : Grow (GlyV F) s s' [] := ⟨[], by rw [e, List.append_nil], .nil, Nat.zero_le _⟩
in #guard_msgs in open Nat
section
variable {A : Around} {h₀ h : Heap} {F₀ F : Fz} {W : List Addr} {mu : Mu} {tk : Nat}
theorem c_placed {ta td pl fo lo : Addr} {vs vr vp : Value} {x : CE} {s : WS} {o : Op} {tw : Tok} {gs args : List Value} {cc N : Nat} {Q : Value → Shared → Prop} (hR : Room 36 A) (f : Fm h₀ F₀ W mu F h) (ho : F ta = some (Raw (instObj 589 td)))
  (t : Tk (us5 prog w td vs x pl vr vp fo gs) (us5 prog w td vs x pl vr vp fo gs) mu mu) (wv : WsV prog w F x vr vp s) (qs : WsQ cc N s) (hlo : F lo = some (lst args)) (ha : ArgsV F args o) (hok : o.ok s) (hp : ([("Td" : Str), "TD", "T*", "Tm", "Tj", "TJ", "'", "\"", "ET"]).contains (opWord o) = true) (hc : cc ≤ 24) (hN : N ≤ 50000) (hg : gs.length ≤ 800)
  (ret : PRet prog w td vs x pl fo gs F h g d os s (s.op o) Q) :
  wpAny (model prog w) A (call (.ref 600) [.ref ta, .str (opWord o) tw, .ref lo]) Q E ⟨h, g, d, tk, os⟩ := by
 have cs := wv.st
 have hso := cs.obj
 cases o with
 | Td a b =>
  obtain ⟨htx, qa, qb⟩ := hok
  obtain ⟨r, p, rfl, rfl, kr, kp⟩ := wv.in htx
  obtain ⟨v1, v2, rfl, n1, n2⟩ := ha
  refine r_use (enter ["tour", "word", "operands"] [] [("decimal_of", .ref 185), ("from_array", .ref 385)] [("tour", some (.ref ta)), ("word", some (.str ("Td" : Str) tw)), ("operands", some (.ref lo))] hR f (f.take t) (by unfold K; k_is) (by unfold K; k_is) (BindsTo.of_eq rfl) rfl rfl (by decide) (by decide) (by decide) (Ga.all (.cons (gv_decimal_of) (.cons (gv_from_array) .nil))) rfl rfl rfl (by decide) rfl ?_)
  intro env h2 tk2 ok f2 hR2
  k_extra "dp"
  k_extra "cTnext"
  case qr => exact qs.row
  case qx => exact qa
  case qy => exact qb
  case hN => k_extra "om"
  intro o5 F5 h5 tk5 xx m hv5
  rename Fm h F _ _ _ _ => fc
  have f6 := fc.tkW m xx rfl (by k_extra "tk")
  k_extra "dp"
  have cs9 := cs.mono f6.ext.le
  exact ret x (.ref o5) (.ref o5) [] _ _ _ rfl rfl rfl f6.leave.1 (by rw [List.append_nil]; exact f6.leave.2) (.mk1 cs9 htx hv5 hv5) (no_rows rfl)
 | TD a b =>
  obtain ⟨htx, qa, qb⟩ := hok
  obtain ⟨r, p, rfl, rfl, kr, kp⟩ := wv.in htx
  obtain ⟨v1, v2, rfl, n1, n2⟩ := ha
  have qs0 := qs.st
  refine r_use (enter ["tour", "word", "operands"] [] [("decimal_of", .ref 185), ("from_array", .ref 385)] [("tour", some (.ref ta)), ("word", some (.str ("TD" : Str) tw)), ("operands", some (.ref lo))] hR f (f.take t) (by unfold K; k_is) (by unfold K; k_is) (BindsTo.of_eq rfl) rfl rfl (by decide) (by decide) (by decide) (Ga.all (.cons (gv_decimal_of) (.cons (gv_from_array) .nil))) rfl rfl rfl (by decide) rfl ?_)
  intro env h2 tk2 ok f2 hR2
  k_extra "dp"
  k_extra "callk"
  k_extra "dp"
  k_extra "cDecof"
  intro v7 F7 h7 tk7 hv7 f7 l7
  obtain ⟨b7, rfl⟩ := hv7.ref
  k_extra "dp"
  k_extra "cNeg"
  intro v8 F8 h8 tk8 hv8 f8 l8
  obtain ⟨b8, rfl⟩ := hv8.ref
  k_extra "dp"
  k_extra "setD"
  k_extra "dp"
  k_extra "cTnext"
  case qr => exact qs.row
  case qx => exact qa
  case qy => exact qb
  case hN => k_extra "om"
  intro o5 F5 h5 tk5 xx m hv5
  rename Fm h F _ _ _ _ => fc
  have f6 := fc.tkW m xx rfl (by k_extra "tk")
  k_extra "dp"
  have lx := xx.le
  have k8 : DecV F5 (.ref b8) (-b) := by k_extra "DecV"
  have cs9 := cs.mono f6.ext.le
  exact ret { x with l := b8 } (.ref o5) (.ref o5) [] _ _ _ rfl rfl rfl f6.leave.1 (by rw [List.append_nil]; exact f6.leave.2) (.mk1 ⟨cs9.obj, cs9.ctm, cs9.font, cs9.hf, cs9.size, cs9.Tc, cs9.Tw, cs9.Tz, k8, cs9.Ts, cs9.ns⟩ htx hv5 hv5) (no_rows rfl)
 | Tst =>
  have htx : s.text = true := hok
  obtain ⟨r, p, rfl, rfl, kr, kp⟩ := wv.in htx
  have ha : args = [] := ha
  subst ha
  refine r_use (enter ["tour", "word", "operands"] [] [("decimal_of", .ref 185), ("from_array", .ref 385)] [("tour", some (.ref ta)), ("word", some (.str ("T*" : Str) tw)), ("operands", some (.ref lo))] hR f (f.take t) (by unfold K; k_is) (by unfold K; k_is) (BindsTo.of_eq rfl) rfl rfl (by decide) (by decide) (by decide) (Ga.all (.cons (gv_decimal_of) (.cons (gv_from_array) .nil))) rfl rfl rfl (by decide) rfl ?_)
  intro env h2 tk2 ok f2 hR2
  k_extra "dp"
  k_extra "cTfeed"
  case qs => exact qs.st
  case qr => exact qs.row
  case hN => k_extra "om"
  intro o5 F5 h5 tk5 xx m hv5
  rename Fm h F _ _ _ _ => fc
  have f6 := fc.tkW m xx rfl (by k_extra "tk")
  have lx := xx.le
  k_extra "dp"
  exact ret x (.ref o5) (.ref o5) [] _ _ _ rfl rfl rfl f6.leave.1 (by rw [List.append_nil]; exact f6.leave.2) (.mk1 (cs.mono f6.ext.le) htx hv5 hv5) (no_rows rfl)
 | Tm m0 =>
  obtain ⟨htx, qm⟩ := hok
  obtain ⟨r, p, rfl, rfl, kr, kp⟩ := wv.in htx
  refine r_use (enter ["tour", "word", "operands"] [] [("decimal_of", .ref 185), ("from_array", .ref 385)] [("tour", some (.ref ta)), ("word", some (.str ("Tm" : Str) tw)), ("operands", some (.ref lo))] hR f (f.take t) (by unfold K; k_is) (by unfold K; k_is) (BindsTo.of_eq rfl) rfl rfl (by decide) (by decide) (by decide) (Ga.all (.cons (gv_decimal_of) (.cons (gv_from_array) .nil))) rfl rfl rfl (by decide) rfl ?_)
  intro env h2 tk2 ok f2 hR2
  k_extra "dp"
  k_extra "callk"
  k_extra "dp"
  k_extra "cArray"
  case k => exact SixV.mono (by k_extra "le") ha
  intro v7 F7 h7 tk7 hv7 f7 l7
  obtain ⟨o7, d7, aa7, ab7, ac7, ad7, ae7, af7, rfl, _⟩ := id hv7
  k_extra "dp"
  k_extra "cTset"
  intro F5 h5 tk5 f6 l5
  k_extra "dp"
  exact ret x (.ref o7) (.ref o7) [] _ _ _ rfl rfl rfl f6.leave.1 (by rw [List.append_nil]; exact f6.leave.2) (.mk1 (cs.mono f6.ext.le) htx (hv7.mono l5) (hv7.mono l5)) (no_rows rfl)
 | ET =>
  have htx : s.text = true := hok
  obtain ⟨r, p, rfl, rfl, kr, kp⟩ := wv.in htx
  refine r_use (enter ["tour", "word", "operands"] [] [("decimal_of", .ref 185), ("from_array", .ref 385)] [("tour", some (.ref ta)), ("word", some (.str ("ET" : Str) tw)), ("operands", some (.ref lo))] hR f (f.take t) (by unfold K; k_is) (by unfold K; k_is) (BindsTo.of_eq rfl) rfl rfl (by decide) (by decide) (by decide) (Ga.all (.cons (gv_decimal_of) (.cons (gv_from_array) .nil))) rfl rfl rfl (by decide) rfl ?_)
  intro env h2 tk2 ok f2 hR2
  k_extra "dp"
  k_extra "cTset"
  intro F5 h5 tk5 f6 l5
  k_extra "dp"
  exact ret x .none .none [] _ _ _ rfl rfl rfl f6.leave.1 (by rw [List.append_nil]; exact f6.leave.2) (.mk0 (cs.mono f6.ext.le) rfl) (no_rows rfl)
 | TJ l =>
  obtain ⟨htx, hset, hpo, hpl⟩ := hok
  obtain ⟨r, p, rfl, rfl, kr, kp⟩ := wv.in htx
  obtain ⟨D, us, rfl, hD, hus⟩ := ha
  refine r_use (enter ["tour", "word", "operands"] [] [("decimal_of", .ref 185), ("from_array", .ref 385)] [("tour", some (.ref ta)), ("word", some (.str ("TJ" : Str) tw)), ("operands", some (.ref lo))] hR f (f.take t) (by unfold K; k_is) (by unfold K; k_is) (BindsTo.of_eq rfl) rfl rfl (by decide) (by decide) (by decide) (Ga.all (.cons (gv_decimal_of) (.cons (gv_from_array) .nil))) rfl rfl rfl (by decide) rfl ?_)
  intro env h2 tk2 ok f2 hR2
  k_extra "dp"
  k_extra "cTparts"
  case set => exact hset
  case qs => exact qs
  case hus => exact hus.mono fun v p => PartV.mono (by k_extra "le")
  case hok => exact hpo
  case hpl => exact hpl
  case hc => exact hc
  case hN => exact hN
  case hg => exact hg
  intro o5 g5 F5 h5 tk5 xx m hv5 hr5
  rename Fm h F _ _ _ _ => fc
  have f6 := fc.tkW m xx rfl (by k_extra "tk")
  have lx := xx.le
  k_extra "dp"
  have er : (s.parts l).row = s.row := parts_row s l
  have et : (s.parts l).text = s.text := parts_text s l
  have es : (s.parts l).st = s.st := parts_st s l
  exact ret x (.ref r) (.ref o5) g5 _ _ _ rfl rfl rfl f6.leave.1 f6.leave.2 (.mk1 (show CsV prog w _ x (s.parts l).st from es ▸ cs.mono f6.ext.le) (et.trans htx) (show MatV _ _ (s.parts l).row from er ▸ kr.mono f6.ext.le) hv5) hr5
 | Tj l =>
  obtain ⟨htx, hset, hol⟩ := hok
  obtain ⟨r, p, rfl, rfl, kr, kp⟩ := wv.in htx
  obtain ⟨v1, rfl, sv⟩ := ha
  obtain ⟨sa, sda, b, tb, rfl, hsa, hsda, ob, hcl⟩ := id sv
  refine r_use (enter ["tour", "word", "operands"] [] [("decimal_of", .ref 185), ("from_array", .ref 385)] [("tour", some (.ref ta)), ("word", some (.str ("Tj" : Str) tw)), ("operands", some (.ref lo))] hR f (f.take t) (by unfold K; k_is) (by unfold K; k_is) (BindsTo.of_eq rfl) rfl rfl (by decide) (by decide) (by decide) (Ga.all (.cons (gv_decimal_of) (.cons (gv_from_array) .nil))) rfl rfl rfl (by decide) rfl ?_)
  intro env h2 tk2 ok f2 hR2
  k_extra "dp"
  k_extra "cTshow"
  case set => exact hset
  case qs => exact qs.st
  case qp => exact qs.place
  case ob => exact ob
  case hc => exact hc
  case hN => k_extra "om"
  case hg => k_extra "om"
  intro o6 g6 F6 h6 tk6 xx m hv6 hg6
  rename Fm h F _ _ _ _ => fc
  have f6 := fc.tkW m xx rfl (by k_extra "tk")
  have lx := xx.le
  k_extra "dp"
  rw [hcl] at hv6 hg6
  exact ret x (.ref r) (.ref o6) g6 _ _ _ rfl rfl rfl f6.leave.1 f6.leave.2 (.mk1 (cs.mono f6.ext.le) htx (kr.mono f6.ext.le) hv6) ⟨_, rfl, hg6, by have := ob.sz; rw [showR_len, ← hcl, codes_len]; k_extra "om"⟩
 | q1 l =>
  obtain ⟨htx, hset, hol⟩ := hok
  obtain ⟨r, p, rfl, rfl, kr, kp⟩ := wv.in htx
  obtain ⟨v1, rfl, sv⟩ := ha
  obtain ⟨sa, sda, b, tb, rfl, hsa, hsda, ob, hcl⟩ := id sv
  have qf := qs.feed
  refine r_use (enter ["tour", "word", "operands"] [] [("decimal_of", .ref 185), ("from_array", .ref 385)] [("tour", some (.ref ta)), ("word", some (.str ("'" : Str) tw)), ("operands", some (.ref lo))] hR f (f.take t) (by unfold K; k_is) (by unfold K; k_is) (BindsTo.of_eq rfl) rfl rfl (by decide) (by decide) (by decide) (Ga.all (.cons (gv_decimal_of) (.cons (gv_from_array) .nil))) rfl rfl rfl (by decide) rfl ?_)
  intro env h2 tk2 ok f2 hR2
  k_extra "dp"
  k_extra "cTfeed"
  case qs => exact qs.st
  case qr => exact qs.row
  case hN => k_extra "om"
  intro o5 F5 h5 tk5 xx m hv5
  rename Fm h F _ _ _ _ => fc
  have f6 := fc.tkW m xx rfl (by k_extra "tk")
  have lx := xx.le
  have cs7 := cs.mono f6.ext.le
  k_extra "dp"
  k_extra "cTshow"
  case set => exact hset
  case qs => exact qf.st
  case qp => exact qf.place
  case ob => exact ob
  case hc => exact hc
  case hN => k_extra "om"
  case hg => k_extra "om"
  intro o8 g8 F8 h8 tk8 xx8 m8 hv8 hg8
  rename Fm h F _ _ F5 _ => fc8
  have f9 := fc8.tkW m8 xx8 rfl (by k_extra "tk")
  have lx8 := xx8.le
  k_extra "dp"
  rw [hcl] at hv8 hg8
  exact ret x (.ref o5) (.ref o8) g8 _ _ _ rfl rfl rfl f9.leave.1 f9.leave.2 (.mk1 (cs7.mono lx8) htx (hv5.mono lx8) hv8) ⟨_, rfl, hg8, by have := ob.sz; rw [showR_len, ← hcl, codes_len]; k_extra "om"⟩
 | q2 a b0 l =>
  obtain ⟨htx, hset, qa, qb, hol⟩ := hok
  obtain ⟨r, p, rfl, rfl, kr, kp⟩ := wv.in htx
  obtain ⟨v1, v2, v3, rfl, n1, n2, sv⟩ := ha
  obtain ⟨sa, sda, b, tb, rfl, hsa, hsda, ob, hcl⟩ := id sv
  have s1 := qs.st
  have qs' : WsQ cc N { s with st := { s.st with Tw := a, Tc := b0 } } := ⟨⟨s1.ctm, s1.size, qb, qa, s1.Tz, s1.TL, s1.Ts⟩, qs.pile, qs.row, qs.place, qs.rows⟩
  have qf := qs'.feed
  refine r_use (enter ["tour", "word", "operands"] [] [("decimal_of", .ref 185), ("from_array", .ref 385)] [("tour", some (.ref ta)), ("word", some (.str ("\"" : Str) tw)), ("operands", some (.ref lo))] hR f (f.take t) (by unfold K; k_is) (by unfold K; k_is) (BindsTo.of_eq rfl) rfl rfl (by decide) (by decide) (by decide) (Ga.all (.cons (gv_decimal_of) (.cons (gv_from_array) .nil))) rfl rfl rfl (by decide) rfl ?_)
  intro env h2 tk2 ok f2 hR2
  k_extra "dp"
  k_extra "callk"
  k_extra "dp"
  k_extra "cDecof"
  intro v7 F7 h7 tk7 hv7 f7 l7
  obtain ⟨b7, rfl⟩ := hv7.ref
  k_extra "dp"
  k_extra "setD"
  k_extra "dp"
  k_extra "callk"
  k_extra "dp"
  k_extra "cDecof"
  intro v8 F8 h8 tk8 hv8 f8 l8
  obtain ⟨b8, rfl⟩ := hv8.ref
  k_extra "dp"
  k_extra "setD"
  have c0 : CsV prog w F8 x s.st := by k_extra "CsV"
  have cs2 : CsV prog w F8 { x with w := b7, c := b8 } { s.st with Tw := a, Tc := b0 } := ⟨c0.obj, c0.ctm, c0.font, c0.hf, c0.size, hv8, hv7.mono l8, c0.Tz, c0.TL, c0.Ts, c0.ns⟩
  clear c0
  k_extra "dp"
  k_extra "cTfeedA"
  case qs => exact qs'.st
  case qr => exact qs'.row
  case hN => k_extra "om"
  intro o5 F5 h5 tk5 xx m hv5
  rename Fm h F _ _ _ _ => fc
  have f6 := fc.tkW m xx rfl (by k_extra "tk")
  have lx := xx.le
  have cs7 := cs2.mono lx
  k_extra "dp"
  k_extra "cTshowA"
  case set => exact hset
  case qs => exact qf.st
  case qp => exact qf.place
  case ob => exact ob
  case hc => exact hc
  case hN => k_extra "om"
  case hg => k_extra "om"
  intro o8 g8 F8 h8 tk8 xx8 m8 hv8 hg8
  rename Fm h F _ _ F5 _ => fc8
  have f9 := fc8.tkW m8 xx8 rfl (by k_extra "tk")
  have lx8 := xx8.le
  k_extra "dp"
  rw [hcl] at hv8 hg8
  exact ret { x with w := b7, c := b8 } (.ref o5) (.ref o8) g8 _ _ _ rfl rfl rfl f9.leave.1 f9.leave.2 (.mk1 (cs7.mono lx8) htx (hv5.mono lx8) hv8) ⟨_, rfl, hg8, by have := ob.sz; rw [showR_len, ← hcl, codes_len]; k_extra "om"⟩
 | Tc _ => exact absurd (show false = true from hp) Bool.false_ne_true
 | Tw _ => exact absurd (show false = true from hp) Bool.false_ne_true
 | Tz _ => exact absurd (show false = true from hp) Bool.false_ne_true
 | TL _ => exact absurd (show false = true from hp) Bool.false_ne_true
 | Ts _ => exact absurd (show false = true from hp) Bool.false_ne_true
 | Tf _ _ => exact absurd (show false = true from hp) Bool.false_ne_true
 | q => exact absurd (show false = true from hp) Bool.false_ne_true
 | Q => exact absurd (show false = true from hp) Bool.false_ne_true
 | cm _ => exact absurd (show false = true from hp) Bool.false_ne_true
 | BT => exact absurd (show false = true from hp) Bool.false_ne_true
in #guard_msgs in open Nat
end
theorem WsV.keep {prog : Program} {w : World} {F F' : Fz} {x x' : CE} {vr vp : Value} {s s' : WS} (h : WsV prog w F x vr vp s) (l : Le F F') (c : CsV prog w F' x' s'.st) (e1 : s'.text = s.text) (e2 : s'.row = s.row) (e3 : s'.place = s.place) : WsV prog w F' x' vr vp s' := by
 refine ⟨c, ?_⟩
 have := h.at'
 rw [e1, e2, e3]
 split
 ·rename_i e
  rw [if_pos e] at this
  obtain ⟨r, p, a, b, k1, k2⟩ := this
  exact ⟨r, p, a, b, k1.mono l, k2.mono l⟩
 ·rename_i e
  rw [if_neg e] at this
  exact this
in #guard_msgs in open Nat
theorem Fm.ownOf {h₀ h : Heap} {F₀ F : Fz} {W : List Addr} {mu : Mu} (f : Fm h₀ F₀ W mu F h) {a : Addr} (e : h.get? a = none) : Own h₀ W a := ⟨f.fresh e, fun q => by
 obtain ⟨p, hp, e'⟩ := of_mem_adr (f.tr _ q)
 exact (f.mus.has p hp).1.ne_none (by rw [e']; exact e)⟩
in #guard_msgs in open Nat
inductive SheetV (prog : Program) (w : World) (F : Fz) (sh : Addr) : Prop
  | mk (shd ops fd fm ow fa fb) (e0 : F sh = some (Raw (instObj 470 shd))) (e1 : F shd = some (idc [("operations", some ops), ("fonts", some (.ref fd)), ("forms", some fm), ("own", some ow)])) (e2 : F fd = some (dic (strKind prog w) [("A", .ref fa), ("B", .ref fb)])) (e3 : (fd == sysModules) = false) (e4 : FontV prog w F (.ref fa) true) (e5 : FontV prog w F (.ref fb) false) : SheetV prog w F sh
theorem SheetV.mono {prog : Program} {w : World} {F F' : Fz} (l : Le F F') {sh : Addr} (h : SheetV prog w F sh) : SheetV prog w F' sh := by
 obtain ⟨shd, ops, fd, fm, ow, fa, fb, a, b, c, d, e, f⟩ := h
 exact ⟨shd, ops, fd, fm, ow, fa, fb, l _ _ a, l _ _ b, l _ _ c, d, e.mono l, f.mono l⟩
in #guard_msgs in open Nat
section
variable {A : Around} {h₀ h : Heap} {F₀ F : Fz} {W : List Addr} {mu : Mu} {tk : Nat}
theorem c_choose {ta td pl fo lo sh : Addr} {vr vp : Value} {x : CE} {s : WS} {b : Bool} {y : Rat} {gs args : List Value} {Q : Value → Shared → Prop} (hR : Room 36 A) (f : Fm h₀ F₀ W mu F h) (ho : F ta = some (Raw (instObj 589 td))) (hsh : SheetV prog w F sh)
  (t : Tk (us5 prog w td (.ref sh) x pl vr vp fo gs) (us5 prog w td (.ref sh) x pl vr vp fo gs) mu mu) (wv : WsV prog w F x vr vp s) (hlo : F lo = some (lst args)) (ha : ArgsV F args (.Tf b y))
  (ret : PRet prog w td (.ref sh) x pl fo gs F h g d os s (s.op (.Tf b y)) Q) :
  wpAny (model prog w) A (call (.ref 607) [.ref ta, .ref lo]) Q E ⟨h, g, d, tk, os⟩ := by
 have cs := wv.st
 have hso := cs.obj
 obtain ⟨shd, ops, fd, fm, ow, fa, fb, e1, e2, e3, ns, ka, kb⟩ := hsh
 obtain ⟨u, v, rfl, ⟨na, nd, tn, rfl, hna, hnd⟩, nv⟩ := ha
 cases b with
 | true =>
  obtain ⟨fa1, fa2, _⟩ := id ka
  refine r_use (enter ["tour", "operands"] [] [("decimal_of", .ref 185)] [("tour", some (.ref ta)), ("operands", some (.ref lo))] hR f (f.take t) (by unfold K; k_is) (by unfold K; k_is) (BindsTo.of_eq rfl) rfl rfl (by decide) (by decide) (by decide) (Ga.all (.cons (gv_decimal_of) .nil)) rfl rfl rfl (by decide) rfl ?_)
  intro env h2 tk2 ok f2 hR2
  have hnd' : F nd = some (idc [("text", some (.str ("A" : Str) tn))]) := hnd
  k_extra "dp"
  k_extra "ninD"
  case b => exact true
  case hb => rfl
  intro tk3
  k_extra "dp"
  k_extra "sat"
  k_extra "dp"
  k_extra "callk"
  k_extra "dp"
  k_extra "cDecof"
  intro v7 F7 h7 tk7 hv7 f7 l7
  obtain ⟨b7, rfl⟩ := hv7.ref
  k_extra "dp"
  k_extra "sat"
  k_extra "dp"
  rename Fm h F _ _ _ _ => f9
  have c9 := cs.mono l7
  exact ret { x with f := .ref fa, z := b7 } vr vp [] _ _ _ rfl rfl rfl f9.leave.1 (by rw [List.append_nil]; exact f9.leave.2) (wv.keep l7 ⟨c9.obj, c9.ctm, by show (if true = true then _ else _); rw [if_pos rfl]; exact ka.mono l7, rfl, hv7, c9.Tc, c9.Tw, c9.Tz, c9.TL, c9.Ts, c9.ns⟩ rfl rfl rfl) (no_rows rfl)
 | false =>
  refine r_use (enter ["tour", "operands"] [] [("decimal_of", .ref 185)] [("tour", some (.ref ta)), ("operands", some (.ref lo))] hR f (f.take t) (by unfold K; k_is) (by unfold K; k_is) (BindsTo.of_eq rfl) rfl rfl (by decide) (by decide) (by decide) (Ga.all (.cons (gv_decimal_of) .nil)) rfl rfl rfl (by decide) rfl ?_)
  intro env h2 tk2 ok f2 hR2
  have hnd' : F nd = some (idc [("text", some (.str ("B" : Str) tn))]) := hnd
  k_extra "dp"
  k_extra "ninD"
  case b => exact true
  case hb => rfl
  intro tk3
  k_extra "dp"
  k_extra "sat"
  k_extra "dp"
  k_extra "callk"
  k_extra "dp"
  k_extra "cDecof"
  intro v7 F7 h7 tk7 hv7 f7 l7
  obtain ⟨b7, rfl⟩ := hv7.ref
  k_extra "dp"
  k_extra "sat"
  k_extra "dp"
  rename Fm h F _ _ _ _ => f9
  have c9 := cs.mono l7
  exact ret { x with f := .ref fb, z := b7 } vr vp [] _ _ _ rfl rfl rfl f9.leave.1 (by rw [List.append_nil]; exact f9.leave.2) (wv.keep l7 ⟨c9.obj, c9.ctm, by show (if true = true then _ else _); rw [if_pos rfl]; exact kb.mono l7, rfl, hv7, c9.Tc, c9.Tw, c9.Tz, c9.TL, c9.Ts, c9.ns⟩ rfl rfl rfl) (no_rows rfl)
in #guard_msgs in open Nat
theorem c_copied {x : CE} {s : TS} {Q : Value → Shared → Prop} (hR : Room 16 A) (f : Fm h₀ F₀ W mu F h) (t : Tk (x.cells prog w) (x.cells prog w) mu mu) (cs : CsV prog w F x s)
  (ret : ∀ (y : CE) F' h' tk', Ext F h (adr (x.cells prog w)) F' h' → Mus F' h' (x.cells prog w ++ y.cells prog w) → (∀ a ∈ adr (y.cells prog w), h.get? a = none) → CsV prog w F' y s → Q (.ref y.a) ⟨h', g, d, tk', os⟩) :
  wpAny (model prog w) A (call (.ref 495) [.ref x.a]) Q E ⟨h, g, d, tk, os⟩ := by
 have hso := cs.obj
 have hff := cs.hf
 have hm := cs.ctm
 refine r_use (enter ["self"] ["other"] [("TextState", .ref 505), ("dict", .type "dict")] [("self", some (.ref x.a)), ("other", none)] hR f (f.take t) (by unfold K; k_is) (by unfold K; k_is) (BindsTo.of_eq rfl) rfl rfl (by decide) (by decide) (by decide) (Ga.all (.cons (gv_TextState) (.cons (gv_dict) .nil))) rfl rfl rfl (by decide) rfl ?_)
 intro env h2 tk2 ok f2 hR2
 k_extra "dp"
 k_extra "callk"
 k_extra "dp"
 k_extra "mkState"
 intro y F3 h3 tk3 cy f3 fr3 l3
 have f3' : Fm h F (adr (x.cells prog w)) ((env.locals, frm env [("self", some (.ref x.a)), ("other", none)]) :: (x.da, idc x.fs) :: (x.sp, dic (strKind prog w) x.kvs) :: (y.da, idc y.fs) :: (y.sp, dic (strKind prog w) y.kvs) :: []) F3 h3 := f3
 clear f3
 have hyo := cy.obj
 have hns := cs.ns
 k_extra "dp"
 k_extra "sat"
 k_extra "dp"
 k_extra "sat"
 k_extra "dp"
 k_extra "callb"
 k_extra "dp"
 k_extra "dcp"
 case ns => exact hns
 intro D h6 f6 oD nsD
 k_extra "dp"
 k_extra "sat"
 k_extra "dp"
 rename Fm h F _ _ _ _ => fe
 have os := f2.ownOf (fr3 y.sp (.tail _ (.head _)))
 have od := f2.ownOf (fr3 y.da (.head _))
 have fz := fe.lose (.tail (.tail (.tail (.tail (.tail .head))))) (fun _ _ _ e => e) os.h0 os.nw
 have fp := fz.perm (.cons _ (List.perm_append_singleton _ _).symm)
 have c9 := cs.mono l3
 exact ret ⟨y.a, y.da, D, y.m, x.f, x.z, x.c, x.w, x.h, x.l, x.r⟩ F3 _ _ fp.leave.1 fp.leave.2 (fun a ha => by
  rcases List.mem_cons.mp ha with rfl | ha
  ·exact od.h0
  ·rw [List.mem_singleton.mp ha]; exact oD.h0) ⟨hyo, cy.ctm, c9.font, c9.hf, c9.size, c9.Tc, c9.Tw, c9.Tz, c9.TL, c9.Ts, nsD⟩
in #guard_msgs in open Nat
end
structure QE where
  x : CE
  t : TS
noncomputable def qcs (prog : Program) (w : World) : List QE → Mu
  | [] => []
  | q :: r => q.x.cells prog w ++ qcs prog w r
noncomputable def qvs (ps : List QE) : List Value := (ps.map fun q => Value.ref q.x.a).reverse
theorem qvs_cons (q : QE) (ps : List QE) : qvs (q :: ps) = qvs ps ++ [.ref q.x.a] := by simp [qvs]
section
variable {A : Around} {h₀ h : Heap} {F₀ F : Fz} {W : List Addr} {mu mu' : Mu} {tk : Nat}
theorem c_save {ta td pl fo : Addr} {vs vr vp : Value} {x : CE} {s : TS} {args : Addr} {tw : Tok} {ss : List Value} {Q : Value → Shared → Prop} (hR : Room 20 A) (f : Fm h₀ F₀ W mu F h) (ho : F ta = some (Raw (instObj 589 td)))
  (t : Tk ((td, idc (tourF vs x.a pl vr vp fo)) :: (pl, lst ss) :: x.cells prog w) ((td, idc (tourF vs x.a pl vr vp fo)) :: (pl, lst ss) :: x.cells prog w) mu mu) (cs : CsV prog w F x s) (hs : ss.length ≤ 900)
  (ret : ∀ (y : CE) F' h' tk', Ext F h [td, pl, x.da, x.sp] F' h' → Mus F' h' (((td, idc (tourF vs x.a pl vr vp fo)) :: (pl, lst (ss ++ [.ref y.a])) :: x.cells prog w) ++ y.cells prog w) → (∀ a ∈ adr (y.cells prog w), h.get? a = none) → CsV prog w F' y s → Q .none ⟨h', g, d, tk', os⟩) :
  wpAny (model prog w) A (call (.ref 614) [.ref ta, .str "q" tw, .ref args]) Q E ⟨h, g, d, tk, os⟩ := by
 have hso := cs.obj
 refine r_use (enter ["tour", "word", "operands"] [] [("len", .builtin "len"), ("from_array", .ref 385), ("identity", .ref 371)] [("tour", some (.ref ta)), ("word", some (.str ("q" : Str) tw)), ("operands", some (.ref args))] hR f (f.take t) (by unfold K; k_is) (by unfold K; k_is) (BindsTo.of_eq rfl) rfl rfl (by decide) (by decide) (by decide) (Ga.all (.cons (gv_len) (.cons (gv_from_array) (.cons (gv_identity) .nil)))) rfl rfl rfl (by decide) rfl ?_)
 intro env h2 tk2 ok f2 hR2
 k_extra "dp"
 k_extra "gmA"
 k_extra "dp"
 k_extra "cCopied"
 case cs => exact cs
 intro y F3 h3 tk3 xx m fr cy
 have lx := xx.le
 have f3 := f2.grow (by k_extra "tk") xx m fr
 have f3' : Fm h F [td, pl, x.da, x.sp] ((env.locals, frm env [("tour", some (.ref ta)), ("word", some (.str "q" tw)), ("operands", some (.ref args))]) :: (td, idc (tourF vs x.a pl vr vp fo)) :: (pl, lst ss) :: (x.da, idc x.fs) :: (x.sp, dic (strKind prog w) x.kvs) :: (y.da, idc y.fs) :: (y.sp, dic (strKind prog w) y.kvs) :: []) F3 h3 := f3
 clear f3
 k_extra "dp"
 k_extra "app"
 case hz => k_extra "om"
 k_extra "dp"
 rename Fm h F _ _ _ _ => fe
 exact ret y F3 _ _ fe.ext fe.mus.tail (fun a ha => (f2.ownOf (fr a ha)).h0) cy
in #guard_msgs in open Nat
theorem c_restore {ta td pl fo sa ya : Addr} {vs vr vp : Value} {args : Addr} {tw : Tok} {ss : List Value} {Q : Value → Shared → Prop} (hR : Room 20 A) (f : Fm h₀ F₀ W mu F h) (ho : F ta = some (Raw (instObj 589 td)))
  (t : Tk [(td, idc (tourF vs sa pl vr vp fo)), (pl, lst (ss ++ [.ref ya]))] [(td, idc (tourF vs ya pl vr vp fo)), (pl, lst ss)] mu mu') (hs : ss.length ≤ 900)
  (ret : ∀ F' h' tk', Fm h₀ F₀ W mu' F' h' → Le F F' → Q .none ⟨h', g, d, tk', os⟩) :
  wpAny (model prog w) A (call (.ref 614) [.ref ta, .str "Q" tw, .ref args]) Q E ⟨h, g, d, tk, os⟩ := by
 refine r_use (enter ["tour", "word", "operands"] [] [("len", .builtin "len"), ("from_array", .ref 385), ("identity", .ref 371)] [("tour", some (.ref ta)), ("word", some (.str ("Q" : Str) tw)), ("operands", some (.ref args))] hR f (f.take t) (by unfold K; k_is) (by unfold K; k_is) (BindsTo.of_eq rfl) rfl rfl (by decide) (by decide) (by decide) (Ga.all (.cons (gv_len) (.cons (gv_from_array) (.cons (gv_identity) .nil)))) rfl rfl rfl (by decide) rfl ?_)
 intro env h2 tk2 ok f2 hR2
 k_extra "dp"
 k_extra "callb"
 k_extra "dp"
 k_extra "len?"
 case hn => rw [List.length_append, List.length_singleton]; k_extra "om"
 k_extra "dp"
 refine ite_f (by rw [List.length_append, List.length_singleton]; exact beq_eq_false_iff_ne.mpr (by k_extra "om")) ?_
 k_extra "dp"
 k_extra "gmP"
 k_extra "dp"
 k_extra "pop"
 case hz => k_extra "om"
 k_extra "dp"
 k_extra "sat"
 k_extra "dp"
 rename Fm h F _ _ _ _ => fe
 exact ret _ _ _ (f.back t fe).1 (f.back t fe).2
in #guard_msgs in open Nat
theorem c_bt {ta td pl fo lo : Addr} {vs vr vp : Value} {x : CE} {s : WS} {tw : Tok} {gs : List Value} {Q : Value → Shared → Prop} (hR : Room 24 A) (f : Fm h₀ F₀ W mu F h) (ho : F ta = some (Raw (instObj 589 td)))
  (t : Tk (us5 prog w td vs x pl vr vp fo gs) (us5 prog w td vs x pl vr vp fo gs) mu mu) (wv : WsV prog w F x vr vp s) (hok : s.text = false)
  (ret : PRet prog w td vs x pl fo gs F h g d os s (s.op .BT) Q) : wpAny (model prog w) A (call (.ref 614) [.ref ta, .str "BT" tw, .ref lo]) Q E ⟨h, g, d, tk, os⟩ := by
 have cs := wv.st
 obtain rfl := wv.out hok
 refine r_use (enter ["tour", "word", "operands"] [] [("len", .builtin "len"), ("from_array", .ref 385), ("identity", .ref 371)] [("tour", some (.ref ta)), ("word", some (.str ("BT" : Str) tw)), ("operands", some (.ref lo))] hR f (f.take t) (by unfold K; k_is) (by unfold K; k_is) (BindsTo.of_eq rfl) rfl rfl (by decide) (by decide) (by decide) (Ga.all (.cons (gv_len) (.cons (gv_from_array) (.cons (gv_identity) .nil)))) rfl rfl rfl (by decide) rfl ?_)
 intro env h2 tk2 ok f2 hR2
 k_extra "dp"
 k_extra "callk"
 k_extra "cIdentity"
 intro v7 F7 h7 tk7 hv7 f7 l7
 obtain ⟨o7, d7, aa7, ab7, ac7, ad7, ae7, af7, rfl, _⟩ := id hv7
 k_extra "dp"
 k_extra "cTset"
 intro F5 h5 tk5 f6 l5
 k_extra "dp"
 exact ret x (.ref o7) (.ref o7) [] _ _ _ rfl rfl rfl f6.leave.1 (by rw [List.append_nil]; exact f6.leave.2) (.mk1 (cs.mono f6.ext.le) rfl (hv7.mono l5) (hv7.mono l5)) (no_rows rfl)
in #guard_msgs in open Nat
theorem c_cm {ta td pl fo lo : Addr} {vs vr vp : Value} {x : CE} {s : WS} {m0 : M6} {tw : Tok} {gs args : List Value} {cc N : Nat} {Q : Value → Shared → Prop} (hR : Room 30 A) (f : Fm h₀ F₀ W mu F h) (ho : F ta = some (Raw (instObj 589 td)))
  (t : Tk (us5 prog w td vs x pl vr vp fo gs) (us5 prog w td vs x pl vr vp fo gs) mu mu) (wv : WsV prog w F x vr vp s) (qs : WsQ cc N s) (hlo : F lo = some (lst args)) (ha : SixV F args m0) (hok : Mq 1 1 10 m0) (hc : cc ≤ 24) (hN : N ≤ 50000)
  (ret : PRet prog w td vs x pl fo gs F h g d os s (s.op (.cm m0)) Q) : wpAny (model prog w) A (call (.ref 614) [.ref ta, .str "cm" tw, .ref lo]) Q E ⟨h, g, d, tk, os⟩ := by
 have cs := wv.st
 have hso := cs.obj
 have hm := cs.ctm
 refine r_use (enter ["tour", "word", "operands"] [] [("len", .builtin "len"), ("from_array", .ref 385), ("identity", .ref 371)] [("tour", some (.ref ta)), ("word", some (.str ("cm" : Str) tw)), ("operands", some (.ref lo))] hR f (f.take t) (by unfold K; k_is) (by unfold K; k_is) (BindsTo.of_eq rfl) rfl rfl (by decide) (by decide) (by decide) (Ga.all (.cons (gv_len) (.cons (gv_from_array) (.cons (gv_identity) .nil)))) rfl rfl rfl (by decide) rfl ?_)
 intro env h2 tk2 ok f2 hR2
 k_extra "dp"
 k_extra "callk"
 k_extra "dp"
 k_extra "cArray"
 case k => exact SixV.mono (by k_extra "le") ha
 intro v7 F7 h7 tk7 hv7 f7 l7
 obtain ⟨o7, d7, aa7, ab7, ac7, ad7, ae7, af7, rfl, _⟩ := id hv7
 k_extra "dp"
 k_extra "cMtimes"
 case qm => exact hok
 case qn => exact qs.st.ctm
 case hp => k_extra "om"
 case hq1 => k_extra "om"
 case hq2 => k_extra "om"
 case hn => k_extra "om"
 intro v8 F8 h8 tk8 hv8 f8 l8
 obtain ⟨o8, d8, aa8, ab8, ac8, ad8, ae8, af8, rfl, _⟩ := id hv8
 k_extra "dp"
 k_extra "sat"
 k_extra "dp"
 rename Fm h F _ _ _ _ => f9
 have c9 := cs.mono f9.ext.le
 exact ret { x with m := o8 } vr vp [] _ _ _ rfl rfl rfl f9.leave.1 (by rw [List.append_nil]; exact f9.leave.2) (wv.keep f9.ext.le ⟨c9.obj, hv8, c9.font, c9.hf, c9.size, c9.Tc, c9.Tw, c9.Tz, c9.TL, c9.Ts, c9.ns⟩ rfl rfl rfl) (no_rows rfl)
in #guard_msgs in open Nat
end
section
variable {A : Around} {h₀ h : Heap} {F₀ F : Fz} {W : List Addr} {mu mu' : Mu} {tk : Nat}
theorem c_mk_walk {sh sa : Addr} {Q : Value → Shared → Prop} (hR : Room 8 A) (f : Fm h₀ F₀ W mu F h)
  (ret : ∀ ta td pl fo F' h' tk', F' ta = some (Raw (instObj 589 td)) → Fm h₀ F₀ W (mu ++ [(td, idc (tourF (.ref sh) sa pl .none .none fo)), (pl, lst []), (fo, lst [])]) F' h' → (∀ a ∈ [td, pl, fo], h.get? a = none) → Le F F' → Q (.ref ta) ⟨h', g, d, tk', os⟩) : wpAny (model prog w) A (call (.ref 589) [.ref sh, .ref sa]) Q E ⟨h, g, d, tk, os⟩ := by
 refine r_use (make (n := 7) (ks := ["sheet", "state", "pile", "row", "place", "found"]) hR f (mk_TextWalk) (by decide) fun a da F1 h1 A' x1 ha hd hn h0 hR' => ?_)
 refine enter ["self", "sheet", "state"] [] [] [("self", some (.ref a)), ("sheet", some (.ref sh)), ("state", some (.ref sa))] hR' (f.call0 x1) (Mus.mk1 (c := idc [("sheet", none), ("state", none), ("pile", none), ("row", none), ("place", none), ("found", none)]) hd hn) (by unfold K; k_is) (by unfold K; k_is) (BindsTo.of_eq rfl) rfl rfl (by decide) (by decide) (by decide) (Ga.all .nil) rfl rfl rfl (by decide) rfl ?_
 intro env h2 tk2 ok f2 hR2
 k_extra "sf"
 k_extra "sat"
 k_extra "sf"
 k_extra "sat"
 k_extra "sf"
 k_extra "mklM"
 intro P h3 f3 oP
 k_extra "sf"
 k_extra "sat"
 k_extra "sf"
 k_extra "sat"
 k_extra "sf"
 k_extra "sat"
 k_extra "sf"
 k_extra "mklM"
 intro D h4 f4 oD
 k_extra "sf"
 k_extra "sat"
 k_extra "sf"
 rename Fm h1 F1 _ _ _ _ => fe
 have hw : ∀ a' ∈ [da], h.get? a' = none := fun a' ha' => by rw [List.mem_singleton.mp ha']; exact h0
 have back : ∀ {b : Addr}, h1.get? b = none → h.get? b = none := fun {b} e => by
  cases q : h.get? b with
  | none => rfl
  | some o => have := x1.keep b o q (fun z => nomatch z); rw [e] at this; cases this
 have hu : ∀ a' ∈ [da, P, D], h.get? a' = none := fun a' ha' => by
  rcases List.mem_cons.mp ha' with e | ha'
  ·rw [e]; exact h0
  ·rcases List.mem_cons.mp ha' with e | ha'
   ·rw [e]; exact back oP.h0
   ·rw [List.mem_singleton.mp ha']; exact back oD.h0
 have fe2 : Fm h1 F1 [da] (_ :: [(da, idc (tourF (.ref sh) sa P .none .none D)), (P, lst []), (D, lst [])]) F1 _ := fe.perm (.cons _ ((List.perm_append_comm (l₁ := [_, _]) (l₂ := [_])).trans (.cons _ (.swap _ _ _))))
 obtain ⟨fj, lj⟩ := f.join (us := [(da, idc (tourF (.ref sh) sa P .none .none D)), (P, lst []), (D, lst [])]) x1 hw hu fe2
 exact ret a da P D F1 _ _ ha fj hu lj
in #guard_msgs in open Nat
end
theorem WS.run_snoc (s : WS) {ops : List Op} {i : Nat} {o : Op} (e : ops[i]? = some o) : s.run (ops.take (i + 1)) = (s.run (ops.take i)).op o := by
 rw [List.take_add_one, e, WS.run_app]; rfl in
theorem OkRun.at : ∀ {s : WS} {ops : List Op} {i : Nat} {o : Op}, OkRun s ops → ops[i]? = some o → o.ok (s.run (ops.take i))
 | s, [], i, o, _, e => by simp at e
 | s, p :: r, 0, o, h, e => by simp at e; subst e; exact h.1
 | s, p :: r, i + 1, o, h, e => OkRun.at (s := s.op p) (ops := r) (i := i) h.2 (by simpa using e)
in #guard_msgs in open Nat
noncomputable def placedB : Op → Bool
  | .Td _ _ => true | .TD _ _ => true | .Tst => true | .Tm _ => true | .Tj _ => true | .TJ _ => true | .q1 _ => true | .q2 _ _ _ => true | .ET => true | _ => false
noncomputable def spacedB : Op → Bool
  | .Tc _ => true | .Tw _ => true | .Tz _ => true | .TL _ => true | .Ts _ => true | _ => false
theorem placed_any (o : Op) : ([.str "Td" 739, .str "TD" 740, .str "T*" 741, .str "Tm" 742, .str "Tj" 743, .str "TJ" 744, .str "'" 745, .str "\"" 746, .str "ET" 747] : List Value).any (isS (opWord o)) = placedB o := by cases o <;> rfl in
theorem placed_has (o : Op) (h : placedB o = true) : ([("Td" : Str), "TD", "T*", "Tm", "Tj", "TJ", "'", "\"", "ET"]).contains (opWord o) = true := by cases o <;> first | rfl | cases h
in #guard_msgs in open Nat
theorem spaced_any (o : Op) : ([.str "Tc" 749, .str "Tw" 750, .str "Tz" 751, .str "TL" 752, .str "Ts" 753] : List Value).any (isS (opWord o)) = spacedB o := by cases o <;> rfl in
theorem perm_Q {α : Type} (A C L J : List α) : (A ++ (C ++ (L ++ J))).Perm (C ++ (L ++ (A ++ J))) := by
 have := List.perm_append_comm_assoc A (C ++ L) J
 simpa [List.append_assoc] using this
in #guard_msgs in open Nat
structure Turn (prog : Program) (w : World) (F : Fz) (x : CE) (vr vp : Value) (ps : List QE) (gs : List Value) (c N : Nat) (s : WS) : Prop where
  wv : WsV prog w F x vr vp s
  pv : ∀ q ∈ ps, CsV prog w F q.x q.t
  pt : ps.map (·.t) = s.pile
  gv : Al (GlyV F) gs s.rows
  q : WsQ c N s
theorem Turn.mono {prog : Program} {w : World} {F F' : Fz} (l : Le F F') {x : CE} {vr vp : Value} {ps : List QE} {gs : List Value} {c N : Nat} {s : WS} (h : Turn prog w F x vr vp ps gs c N s) : Turn prog w F' x vr vp ps gs c N s :=
 ⟨h.wv.keep l (h.wv.st.mono l) rfl rfl rfl, fun q hq => (h.pv q hq).mono l, h.pt, h.gv.mono fun v r => GlyV.mono l, h.q⟩
in #guard_msgs in open Nat
theorem part_pile (s : WS) (p : Part) : (s.part p).pile = s.pile := by cases p <;> rfl in
theorem parts_pile : ∀ (s : WS) (l : List Part), (s.parts l).pile = s.pile
 | _, [] => rfl
 | s, p :: l => (parts_pile (s.part p) l).trans (part_pile s p) in
theorem placed_pile (s : WS) (o : Op) (h : placedB o = true) : (s.op o).pile = s.pile := by
 cases o <;> first | rfl | exact parts_pile _ _ | cases h
in #guard_msgs in open Nat
section
variable {A : Around} {h₀ h : Heap} {F₀ F : Fz} {W : List Addr} {mu mu' : Mu} {tk : Nat}
inductive JS (sh sa KD ta td pl fo : Addr) (kvs2 : List (Str × Value)) (i : Nat) (st : WS) (ls : Fs) (mu : Mu) (F' : Fz) : Prop
  | mk (x : CE) (vr vp : Value) (gs : List Value) (ps : List QE) (junk : Mu) (o1 o2 : Option Value) (els : ls = ([("sheet", some (.ref sh)), ("state", some (.ref sa)), ("kinds", some (.ref KD)), ("tour", some (.ref ta)), ("operation", o1), ("word", o2), ("form", none), ("inner", none)] : Fs))
    (emu : mu = (KD, dic (strKind prog w) kvs2) :: (td, idc (tourF (.ref sh) x.a pl vr vp fo)) :: (pl, lst (qvs ps)) :: (fo, lst gs) :: (x.da, idc x.fs) :: (x.sp, dic (strKind prog w) x.kvs) :: (qcs prog w ps ++ junk))
    (T : Turn prog w F' x vr vp ps gs (1 + i) (20 + 600 * i) st) (hgl : gs.length ≤ 4 * i) (hpl : ps.length ≤ i) : JS sh sa KD ta td pl fo kvs2 i st ls mu F'
theorem c_sheet {sh lo : Addr} {shd fd fm ow : Addr} {x0 : CE} {s0 : WS} {vs : List Value} {ops : List Op} {Q : Value → Shared → Prop} (hR : Room 40 A) (f : Fm h₀ F₀ W mu F h) (t : Tk (x0.cells prog w) (x0.cells prog w) mu mu)
  (hsh : SheetV prog w F sh) (e1 : F sh = some (Raw (instObj 470 shd))) (e2 : F shd = some (idc [("operations", some (.ref lo)), ("fonts", some (.ref fd)), ("forms", some (.ref fm)), ("own", some (.ref ow))])) (hlo : F lo = some (lst vs)) (hvs : Al (OpV F) vs ops)
  (cs : CsV prog w F x0 s0.st) (h1 : s0.pile = []) (h2' : s0.rows = []) (h3' : s0.text = false) (qs : WsQ 1 20 s0) (hok : OkRun s0 ops) (hn : ops.length ≤ 22)
  (ret : ∀ D gs F' h' tk', F' D = some (lst gs) → Al (GlyV F') gs (s0.run ops).rows → Ext F h (adr (x0.cells prog w)) F' h' → Q (.ref D) ⟨h', g, d, tk', os⟩) :
  wpAny (model prog w) A (call (.ref 621) [.ref sh, .ref x0.a]) Q E ⟨h, g, d, tk, os⟩ := by
 refine r_use (enter ["sheet", "state"] ["kinds", "tour", "operation", "word", "form", "inner"] [("text_kinds", .ref 418), ("TextWalk", .ref 589), ("check_operands", .ref 537), ("PLACED_WORDS", .ref 424), ("follow_placed", .ref 600), ("SPACING_WORDS", .ref 425), ("decimal_of", .ref 185), ("choose_font", .ref 607), ("sheet_glyphs", .ref 621), ("follow_state", .ref 614)] [("sheet", some (.ref sh)), ("state", some (.ref x0.a)), ("kinds", none), ("tour", none), ("operation", none), ("word", none), ("form", none), ("inner", none)] hR f (f.take t) (by unfold K; k_is) (by unfold K; k_is) (BindsTo.of_eq rfl) rfl rfl (by decide) (by decide) (by decide) (Ga.all (.cons (gv_text_kinds) (.cons (gv_TextWalk) (.cons (gv_check_operands) (.cons (gv_PLACED_WORDS) (.cons (gv_follow_placed) (.cons (gv_SPACING_WORDS) (.cons (gv_decimal_of) (.cons (gv_choose_font) (.cons (gv_sheet_glyphs) (.cons (gv_follow_state) .nil))))))))))) rfl rfl rfl (by decide) rfl ?_)
 intro env h2 tk2 ok f2 hR2
 k_extra "dp"
 k_extra "callk"
 refine' c_kinds ?R f2 ?q
 case R => k_extra "room"
 intro KD kvs F3 h3 tk3 f3 oK nsK kr l3
 have kl := kr.len
 k_extra "dp"
 k_extra "mulT"
 intro T4 F4 h4 f4 l4 e4
 k_extra "dp"
 k_extra "setK"
 case hx => rw [kr.any]; rfl
 case hz => rw [kl]; exact Nat.le_of_ble_eq_true rfl
 have l34 : KR F4 kvs kindTab := kr.mono (by k_extra "le")
 have kr1 : KR F4 (kvs ++ [(("cm" : Str), Value.ref T4)]) (kindTab ++ ([("cm", ["number", "number", "number", "number", "number", "number"])] : List (Str × List Str))) := l34.snoc e4 (Sz.ok (by k_extra "sz"))
 clear l34
 k_extra "sg"
 k_extra "mkt"
 intro T5 F5 h5 f5 l5 e5
 k_extra "sg"
 k_extra "setK"
 case hx => rw [kr1.any]; rfl
 case hz => rw [kr1.len]; exact Nat.le_of_ble_eq_true rfl
 have kr2 : KR F5 (kvs ++ [(("cm" : Str), Value.ref T4)] ++ [(("Do" : Str), Value.ref T5)]) kindAll := (kr1.mono l5).snoc e5 (Sz.ok (by k_extra "sz"))
 generalize kvs ++ [(("cm" : Str), Value.ref T4)] ++ [(("Do" : Str), Value.ref T5)] = kvs2 at *
 k_extra "sg"
 k_extra "callk"
 k_extra "sg"
 k_extra "mkWalk"
 intro ta td pl fo F6 h6 tk6 hta f6 fr6 l6
 rename Fm h F _ _ F5 _ => f5'
 have ofo := f5'.ownOf (fr6 fo (.tail _ (.tail _ (.head _))))
 have f6' : Fm h F (adr (x0.cells prog w)) ((env.locals, frm env [("sheet", some (.ref sh)), ("state", some (.ref x0.a)), ("kinds", some (.ref KD)), ("tour", none), ("operation", none), ("word", none), ("form", none), ("inner", none)]) :: (KD, dic (strKind prog w) kvs2) :: (x0.da, idc x0.fs) :: (x0.sp, dic (strKind prog w) x0.kvs) :: (td, idc (tourF (.ref sh) x0.a pl .none .none fo)) :: (pl, lst []) :: (fo, lst []) :: []) F6 h6 := f6
 clear f6
 k_extra "sg"
 rename Fm h F _ _ F6 _ => f7
 have f8 := f7.perm (.cons _ (.cons _ (List.perm_append_comm (l₁ := [_, _]) (l₂ := [_, _, _]))))
 clear f7
 refine for_list (fun (i : Nat) (ls : Fs) (mu : Mu) (F' : Fz) => JS sh x0.a KD ta td pl fo kvs2 i (s0.run (ops.take i)) ls mu F')
  (by k_extra "hd") (by k_extra "fz") f8 ⟨x0, .none, .none, [], [], [], _, _, rfl, rfl, ?j0, Nat.le_refl _, Nat.le_refl _⟩ ?_ ?_ (fun I v => rfl)
 case j0 =>
  have c6 : CsV prog w F6 x0 s0.st := by k_extra "CsV"
  exact ⟨.mk0 c6 h3', fun q hq => (nomatch hq), h1.symm, by show Al _ [] s0.rows; rw [h2']; exact .nil, qs⟩
 ·rintro I i v ls' mu' F8 h8 tk8 hi hv ⟨x, vr, vp, gs, ps, junk, o1, o2, rfl, rfl, T, hgl, hpl⟩ l8 f9
  obtain ⟨o, ho, kv⟩ := hvs.at hv
  have il : i < ops.length := (List.getElem?_eq_some_iff.mp ho).1
  have kv8 : OpV F8 v o := kv.mono (by k_extra "le")
  have kr8 : KR F8 kvs2 kindAll := kr2.mono (l6.trans l8)
  have ook := hok.at ho
  rw [WS.run_snoc s0 ho]
  generalize s0.run (ops.take i) = s at *
  obtain ⟨oa, oda, olo, otw, args, rfl, h1o, h2o, h3o, h4o⟩ := id kv8
  k_extra "sg"
  k_extra "callk"
  k_extra "sg"
  k_extra "cCheck"
  case kr => exact kr8
  case hv => exact kv8
  intro F9 h9 tk9 f10 l9
  k_extra "sg"
  rename Fm h F _ _ F9 _ => f11
  refine k_inT f11 (kk_placed) (by k_extra "ss2") (placedB o) (placed_any o) ?_
  k_extra "sg"
  refine ite_b (fun c1 => ?_) (fun c1 => ?_)
  ·k_extra "sg"
   k_extra "callk"
   k_extra "sg"
   k_extra "cPlaced"
   case wv => exact (T.mono l9).wv
   case qs => exact T.q
   case hlo => exact l9 _ _ h3o
   case ha => exact h4o.mono l9
   case hok => exact ook
   case hp => exact placed_has o c1
   case hc => k_extra "om"
   case hN => k_extra "om"
   case hg => k_extra "om"
   rintro ⟨xa, xda, xsp, xm, xf, xz, xc, xw, xh, xl, xr⟩ vr' vp' gs' F11 h11 tk11 ea eda esp xx m wv' ⟨rs, ers, hgs', hrl⟩
   dsimp only at ea eda esp
   subst ea eda esp
   rename Fm h F _ _ F9 _ => fc
   have f12 := fc.tkW m xx rfl (by k_extra "tk")
   have lx := xx.le
   k_extra "sg"
   refine ⟨_, _, F11, _, _, rfl, f12, (l8.trans l9).trans lx, ⟨x.a, x.da, x.sp, xm, xf, xz, xc, xw, xh, xl, xr⟩, vr', vp', gs ++ gs', ps, junk, _, _, rfl, rfl, ⟨wv', fun q hq => (T.pv q hq).mono (l9.trans lx), T.pt.trans (placed_pile s o c1).symm, ?_, (T.q.op ook (by k_extra "om")).to (by k_extra "om") (by k_extra "om")⟩, ?_, by k_extra "om"⟩
   ·rw [ers]
    exact (T.gv.mono fun v r => GlyV.mono (l9.trans lx)).app hgs'
   ·rw [List.length_append, hgs'.len]; k_extra "om"
  ·k_extra "sg"
   refine k_inT f11 (kk_spacing) (by k_extra "ss2") (spacedB o) (spaced_any o) ?_
   k_extra "sg"
   have cs9 := (T.mono l9).wv.st
   have hso := cs9.obj
   refine ite_b (fun c2 => ?_) (fun c2 => ?_)
   ·cases o with
    | Tc a =>
     obtain ⟨v1, rfl, n1⟩ := h4o
     dsimp only [opWord] at f11 h2o
     k_extra "sg"
     k_extra "callk"
     k_extra "sg"
     k_extra "cDecof"
     intro v12 F12 h12 tk12 hv12 f12 l12
     obtain ⟨b12, rfl⟩ := hv12.ref
     k_extra "sg"
     k_extra "setD"
     k_extra "sg"
     rename Fm h F _ _ F12 _ => fe
     have cx := cs9.mono l12
     refine ⟨_, _, F12, _, _, rfl, fe, (l8.trans l9).trans l12, { x with c := b12 }, vr, vp, gs, ps, junk, _, _, rfl, rfl, ⟨T.wv.keep (l9.trans l12) ⟨cx.obj, cx.ctm, cx.font, cx.hf, cx.size, hv12, (cs9.Tw.mono l12), (cs9.Tz.mono l12), (cs9.TL.mono l12), (cs9.Ts.mono l12), cx.ns⟩ rfl rfl rfl, fun q hq => (T.pv q hq).mono (l9.trans l12), T.pt, T.gv.mono fun v r => GlyV.mono (l9.trans l12), (T.q.op ook (by k_extra "om")).to (by k_extra "om") (by k_extra "om")⟩, by k_extra "om", by k_extra "om"⟩
    | Tw a =>
     obtain ⟨v1, rfl, n1⟩ := h4o
     dsimp only [opWord] at f11 h2o
     k_extra "sg"
     k_extra "callk"
     k_extra "sg"
     k_extra "cDecof"
     intro v12 F12 h12 tk12 hv12 f12 l12
     obtain ⟨b12, rfl⟩ := hv12.ref
     k_extra "sg"
     k_extra "setD"
     k_extra "sg"
     rename Fm h F _ _ F12 _ => fe
     have cx := cs9.mono l12
     refine ⟨_, _, F12, _, _, rfl, fe, (l8.trans l9).trans l12, { x with w := b12 }, vr, vp, gs, ps, junk, _, _, rfl, rfl, ⟨T.wv.keep (l9.trans l12) ⟨cx.obj, cx.ctm, cx.font, cx.hf, cx.size, (cs9.Tc.mono l12), hv12, (cs9.Tz.mono l12), (cs9.TL.mono l12), (cs9.Ts.mono l12), cx.ns⟩ rfl rfl rfl, fun q hq => (T.pv q hq).mono (l9.trans l12), T.pt, T.gv.mono fun v r => GlyV.mono (l9.trans l12), (T.q.op ook (by k_extra "om")).to (by k_extra "om") (by k_extra "om")⟩, by k_extra "om", by k_extra "om"⟩
    | Tz a =>
     obtain ⟨v1, rfl, n1⟩ := h4o
     dsimp only [opWord] at f11 h2o
     k_extra "sg"
     k_extra "callk"
     k_extra "sg"
     k_extra "cDecof"
     intro v12 F12 h12 tk12 hv12 f12 l12
     obtain ⟨b12, rfl⟩ := hv12.ref
     k_extra "sg"
     k_extra "setD"
     k_extra "sg"
     rename Fm h F _ _ F12 _ => fe
     have cx := cs9.mono l12
     refine ⟨_, _, F12, _, _, rfl, fe, (l8.trans l9).trans l12, { x with h := b12 }, vr, vp, gs, ps, junk, _, _, rfl, rfl, ⟨T.wv.keep (l9.trans l12) ⟨cx.obj, cx.ctm, cx.font, cx.hf, cx.size, (cs9.Tc.mono l12), (cs9.Tw.mono l12), hv12, (cs9.TL.mono l12), (cs9.Ts.mono l12), cx.ns⟩ rfl rfl rfl, fun q hq => (T.pv q hq).mono (l9.trans l12), T.pt, T.gv.mono fun v r => GlyV.mono (l9.trans l12), (T.q.op ook (by k_extra "om")).to (by k_extra "om") (by k_extra "om")⟩, by k_extra "om", by k_extra "om"⟩
    | TL a =>
     obtain ⟨v1, rfl, n1⟩ := h4o
     dsimp only [opWord] at f11 h2o
     k_extra "sg"
     k_extra "callk"
     k_extra "sg"
     k_extra "cDecof"
     intro v12 F12 h12 tk12 hv12 f12 l12
     obtain ⟨b12, rfl⟩ := hv12.ref
     k_extra "sg"
     k_extra "setD"
     k_extra "sg"
     rename Fm h F _ _ F12 _ => fe
     have cx := cs9.mono l12
     refine ⟨_, _, F12, _, _, rfl, fe, (l8.trans l9).trans l12, { x with l := b12 }, vr, vp, gs, ps, junk, _, _, rfl, rfl, ⟨T.wv.keep (l9.trans l12) ⟨cx.obj, cx.ctm, cx.font, cx.hf, cx.size, (cs9.Tc.mono l12), (cs9.Tw.mono l12), (cs9.Tz.mono l12), hv12, (cs9.Ts.mono l12), cx.ns⟩ rfl rfl rfl, fun q hq => (T.pv q hq).mono (l9.trans l12), T.pt, T.gv.mono fun v r => GlyV.mono (l9.trans l12), (T.q.op ook (by k_extra "om")).to (by k_extra "om") (by k_extra "om")⟩, by k_extra "om", by k_extra "om"⟩
    | Ts a =>
     obtain ⟨v1, rfl, n1⟩ := h4o
     dsimp only [opWord] at f11 h2o
     k_extra "sg"
     k_extra "callk"
     k_extra "sg"
     k_extra "cDecof"
     intro v12 F12 h12 tk12 hv12 f12 l12
     obtain ⟨b12, rfl⟩ := hv12.ref
     k_extra "sg"
     k_extra "setD"
     k_extra "sg"
     rename Fm h F _ _ F12 _ => fe
     have cx := cs9.mono l12
     refine ⟨_, _, F12, _, _, rfl, fe, (l8.trans l9).trans l12, { x with r := b12 }, vr, vp, gs, ps, junk, _, _, rfl, rfl, ⟨T.wv.keep (l9.trans l12) ⟨cx.obj, cx.ctm, cx.font, cx.hf, cx.size, (cs9.Tc.mono l12), (cs9.Tw.mono l12), (cs9.Tz.mono l12), (cs9.TL.mono l12), hv12, cx.ns⟩ rfl rfl rfl, fun q hq => (T.pv q hq).mono (l9.trans l12), T.pt, T.gv.mono fun v r => GlyV.mono (l9.trans l12), (T.q.op ook (by k_extra "om")).to (by k_extra "om") (by k_extra "om")⟩, by k_extra "om", by k_extra "om"⟩
    | Tf _ _ => cases c2
    | Td _ _ => cases c2
    | TD _ _ => cases c2
    | Tst => cases c2
    | Tm _ => cases c2
    | Tj _ => cases c2
    | TJ _ => cases c2
    | q1 _ => cases c2
    | q2 _ _ _ => cases c2
    | q => cases c2
    | Q => cases c2
    | cm _ => cases c2
    | BT => cases c2
    | ET => cases c2
   ·cases o with
    | Tf b a =>
     dsimp only [opWord] at f11 h2o
     k_extra "dp"
     k_extra "callk"
     k_extra "dp"
     k_extra "cChoose"
     case hsh => exact hsh.mono (by k_extra "le")
     case wv => exact (T.mono l9).wv
     case hlo => exact l9 _ _ h3o
     case ha => exact h4o.mono l9
     rintro ⟨xa, xda, xsp, xm, xf, xz, xc, xw, xh, xl, xr⟩ vr' vp' gs' F11 h11 tk11 ea eda esp xx m wv' ⟨rs, ers, hgs', hrl⟩
     dsimp only at ea eda esp
     subst ea eda esp
     rename Fm h F _ _ F9 _ => fc
     have f12 := fc.tkW m xx rfl (by k_extra "tk")
     have lx := xx.le
     k_extra "sg"
     refine ⟨_, _, F11, _, _, rfl, f12, (l8.trans l9).trans lx, ⟨x.a, x.da, x.sp, xm, xf, xz, xc, xw, xh, xl, xr⟩, vr', vp', gs ++ gs', ps, junk, _, _, rfl, rfl, ⟨wv', fun q hq => (T.pv q hq).mono (l9.trans lx), T.pt.trans rfl, ?_, (T.q.op ook (by k_extra "om")).to (by k_extra "om") (by k_extra "om")⟩, ?_, by k_extra "om"⟩
     ·rw [ers]
      exact (T.gv.mono fun v r => GlyV.mono (l9.trans lx)).app hgs'
     ·rw [List.length_append, hgs'.len]; k_extra "om"
    | BT =>
     dsimp only [opWord] at f11 h2o
     k_extra "dp"
     k_extra "callk"
     k_extra "dp"
     k_extra "cBT"
     case wv => exact (T.mono l9).wv
     case hok => exact ook
     rintro ⟨xa, xda, xsp, xm, xf, xz, xc, xw, xh, xl, xr⟩ vr' vp' gs' F11 h11 tk11 ea eda esp xx m wv' ⟨rs, ers, hgs', hrl⟩
     dsimp only at ea eda esp
     subst ea eda esp
     rename Fm h F _ _ F9 _ => fc
     have f12 := fc.tkW m xx rfl (by k_extra "tk")
     have lx := xx.le
     k_extra "sg"
     refine ⟨_, _, F11, _, _, rfl, f12, (l8.trans l9).trans lx, ⟨x.a, x.da, x.sp, xm, xf, xz, xc, xw, xh, xl, xr⟩, vr', vp', gs ++ gs', ps, junk, _, _, rfl, rfl, ⟨wv', fun q hq => (T.pv q hq).mono (l9.trans lx), T.pt.trans rfl, ?_, (T.q.op ook (by k_extra "om")).to (by k_extra "om") (by k_extra "om")⟩, ?_, by k_extra "om"⟩
     ·rw [ers]
      exact (T.gv.mono fun v r => GlyV.mono (l9.trans lx)).app hgs'
     ·rw [List.length_append, hgs'.len]; k_extra "om"
    | cm m0 =>
     dsimp only [opWord] at f11 h2o
     k_extra "dp"
     k_extra "callk"
     k_extra "dp"
     k_extra "cCm"
     case wv => exact (T.mono l9).wv
     case qs => exact T.q
     case hlo => exact l9 _ _ h3o
     case ha => exact SixV.mono l9 h4o
     case hok => exact ook
     case hc => k_extra "om"
     case hN => k_extra "om"
     rintro ⟨xa, xda, xsp, xm, xf, xz, xc, xw, xh, xl, xr⟩ vr' vp' gs' F11 h11 tk11 ea eda esp xx m wv' ⟨rs, ers, hgs', hrl⟩
     dsimp only at ea eda esp
     subst ea eda esp
     rename Fm h F _ _ F9 _ => fc
     have f12 := fc.tkW m xx rfl (by k_extra "tk")
     have lx := xx.le
     k_extra "sg"
     refine ⟨_, _, F11, _, _, rfl, f12, (l8.trans l9).trans lx, ⟨x.a, x.da, x.sp, xm, xf, xz, xc, xw, xh, xl, xr⟩, vr', vp', gs ++ gs', ps, junk, _, _, rfl, rfl, ⟨wv', fun q hq => (T.pv q hq).mono (l9.trans lx), T.pt.trans rfl, ?_, (T.q.op ook (by k_extra "om")).to (by k_extra "om") (by k_extra "om")⟩, ?_, by k_extra "om"⟩
     ·rw [ers]
      exact (T.gv.mono fun v r => GlyV.mono (l9.trans lx)).app hgs'
     ·rw [List.length_append, hgs'.len]; k_extra "om"
    | q =>
     dsimp only [opWord] at f11 h2o
     k_extra "dp"
     k_extra "callk"
     k_extra "dp"
     k_extra "cSave"
     case cs => exact cs9
     case hs => unfold qvs; rw [List.length_reverse, List.length_map]; k_extra "om"
     intro y F12 h12 tk12 xx m fr cy
     rename Fm h F _ _ F9 _ => fc
     have fg := fc.grow (us := (td, idc (tourF (.ref sh) x.a pl vr vp fo)) :: (pl, lst (qvs ps)) :: x.cells prog w) (by k_extra "tk") xx m fr
     have lx := xx.le
     have pm : ((qcs prog w ps ++ junk) ++ y.cells prog w).Perm (qcs prog w (⟨y, s.st⟩ :: ps) ++ junk) := by
      show (qcs prog w ps ++ junk ++ y.cells prog w).Perm ((y.cells prog w ++ qcs prog w ps) ++ junk)
      rw [List.append_assoc (y.cells prog w)]
      exact List.perm_append_comm
     have fp := Fm.perm fg (List.Perm.append_left [_, _, _, _, _, _, _, _] pm)
     simp only [List.cons_append, List.nil_append] at fp
     k_extra "sg"
     refine ⟨_, _, F12, _, _, rfl, fp, (l8.trans l9).trans lx, x, vr, vp, gs, ⟨y, s.st⟩ :: ps, junk, _, _, rfl, by rw [qvs_cons], ⟨T.wv.keep (l9.trans lx) (cs9.mono lx) rfl rfl rfl, fun q hq => ?_, ?_, T.gv.mono fun v r => GlyV.mono (l9.trans lx), (T.q.op ook (by k_extra "om")).to (by k_extra "om") (by k_extra "om")⟩, by k_extra "om", by rw [List.length_cons]; k_extra "om"⟩
     ·rcases List.mem_cons.mp hq with rfl | hq
      ·exact cy
      ·exact (T.pv q hq).mono (l9.trans lx)
     ·show s.st :: ps.map (·.t) = s.st :: s.pile
      rw [T.pt]
    | Q =>
     cases ps with
     | nil => exact absurd T.pt.symm ook
     | cons q ps =>
      have tp : s.pile = q.t :: ps.map (·.t) := T.pt.symm
      have es : s.op .Q = { s with st := q.t, pile := ps.map (·.t) } := by show (match s.pile with | [] => s | t :: r => { s with st := t, pile := r }) = _; rw [tp]
      have tq := T.q.op ook (by k_extra "om")
      rw [es] at tq
      rw [List.length_cons] at hpl
      dsimp only [opWord] at f11 h2o
      rw [qvs_cons] at f11
      k_extra "dp"
      k_extra "callk"
      k_extra "dp"
      k_extra "cRestore"
      case hs => unfold qvs; rw [List.length_reverse, List.length_map]; k_extra "om"
      intro F12 h12 tk12 f12 l12
      have pm : (x.cells prog w ++ (qcs prog w (q :: ps) ++ junk)).Perm (q.x.cells prog w ++ (qcs prog w ps ++ (x.cells prog w ++ junk))) := by
       show (x.cells prog w ++ ((q.x.cells prog w ++ qcs prog w ps) ++ junk)).Perm _
       rw [List.append_assoc (q.x.cells prog w)]
       exact perm_Q _ _ _ _
      have fp := Fm.perm f12 (List.Perm.append_left [_, _, _, _, _, _] pm)
      simp only [List.cons_append, List.nil_append] at fp
      clear f12
      k_extra "sg"
      rw [es]
      exact ⟨_, _, F12, _, _, rfl, fp, (l8.trans l9).trans l12, q.x, vr, vp, gs, ps, x.cells prog w ++ junk, _, _, rfl, rfl, ⟨T.wv.keep (l9.trans l12) ((T.pv q (.head _)).mono (l9.trans l12)) rfl rfl rfl, fun q' hq => (T.pv q' (.tail _ hq)).mono (l9.trans l12), rfl, T.gv.mono fun v r => GlyV.mono (l9.trans l12), tq.to (by k_extra "om") (by k_extra "om")⟩, by k_extra "om", by k_extra "om"⟩
    | Td _ _ => cases c1
    | TD _ _ => cases c1
    | Tst => cases c1
    | Tm _ => cases c1
    | Tj _ => cases c1
    | TJ _ => cases c1
    | q1 _ => cases c1
    | q2 _ _ _ => cases c1
    | ET => cases c1
    | Tc _ => cases c2
    | Tw _ => cases c2
    | Tz _ => cases c2
    | TL _ => cases c2
    | Ts _ => cases c2
 ·rintro ls' mu' F8 h8 tk8 ⟨x, vr, vp, gs, ps, junk, o1, o2, rfl, rfl, T, hgl, hpl⟩ l8 f9
  have vl : vs.length = ops.length := hvs.len
  rw [vl, List.take_length] at T
  k_extra "sg"
  have ff := f9.freeze (.tail (.tail (.tail (.tail .head)))) ofo.h0 ofo.nw
  have lz : Le F8 (F8.set fo (lst gs)) := Fz.le_set (f9.mus.has (fo, _) (.tail _ (.tail _ (.tail _ (.tail _ (.head _)))))).2
  exact ret fo gs _ _ _ Fz.set_self (T.gv.mono fun v r => GlyV.mono lz) ff.ext
in #guard_msgs in open Nat
end
noncomputable def WS.init (M : M6) : WS := ⟨TS.init M, [], .one, .one, false, []⟩
theorem one_q : Mq 1 10 10 M6.one := ⟨(Dq.int (m := 1) (e := 1) (by decide)).to (by decide) (by decide), Dq.zero, Dq.zero, (Dq.int (m := 1) (e := 1) (by decide)).to (by decide) (by decide), Dq.zero, Dq.zero⟩ in
theorem init_q {M : M6} (q : Mq 1 1 10 M) : WsQ 1 20 (WS.init M) :=
 ⟨⟨q.to (Nat.le_refl _) (by decide) (by decide) (by decide), Dq.zero, Dq.zero, Dq.zero, ⟨1000, by rw [Rat.pow_succ, Rat.pow_zero, Rat.one_mul]; show (100 : Rat) * 10 = ((1000 : Int) : Rat); grind, by decide⟩, Dq.zero, Dq.zero⟩, fun t ht => (nomatch ht), one_q.big (by decide), one_q.big (by decide), fun r hr => (nomatch hr)⟩
in #guard_msgs in open Nat
inductive TolV (F : Fz) (v : Value) (x : Rat) : Prop
  | mk (T m p t1 t2) (e0 : v = .ref T) (e1 : F T = some (tup [.int m t1, .int ((p : Nat) : Int) t2])) (e2 : Nf m p x) : TolV F v x
theorem TolV.mono {F F' : Fz} (l : Le F F') {v : Value} {x : Rat} (h : TolV F v x) : TolV F' v x := by
 obtain ⟨T, m, p, t1, t2, e, a, b⟩ := h
 exact ⟨T, m, p, t1, t2, e, l _ _ a, b⟩
in #guard_msgs in open Nat
section
variable {A : Around} {h₀ h : Heap} {F₀ F : Fz} {W : List Addr} {mu mu' : Mu} {tk : Nat}
theorem c_lay {sh shd lo fd fm ow : Addr} {M : M6} {vs : List Value} {ops : List Op} {Q : Value → Shared → Prop} (hR : Room 42 A) (f : Fm h₀ F₀ W mu F h)
  (hsh : SheetV prog w F sh) (e1 : F sh = some (Raw (instObj 470 shd))) (e2 : F shd = some (idc [("operations", some (.ref lo)), ("fonts", some (.ref fd)), ("forms", some (.ref fm)), ("own", some (.ref ow))])) (hlo : F lo = some (lst vs)) (hvs : Al (OpV F) vs ops)
  (hM : MatV F (.ref ow) M) (qM : Mq 1 1 10 M) (hok : OkRun (WS.init M) ops) (hn : ops.length ≤ 22)
  (ret : ∀ D gs F' h' tk', F' D = some (lst gs) → Al (GlyV F') gs ((WS.init M).run ops).rows → Fm h₀ F₀ W mu F' h' → Le F F' → Q (.ref D) ⟨h', g, d, tk', os⟩) :
  wpAny (model prog w) A (call (.ref 628) [.ref sh]) Q E ⟨h, g, d, tk, os⟩ := by
 have t : Tk [] [] mu mu := .nil
 refine r_use (enter ["sheet"] [] [("sheet_glyphs", .ref 621), ("TextState", .ref 505)] [("sheet", some (.ref sh))] hR f (f.take t) (by unfold K; k_is) (by unfold K; k_is) (BindsTo.of_eq rfl) rfl rfl (by decide) (by decide) (by decide) (Ga.all (.cons (gv_sheet_glyphs) (.cons (gv_TextState) .nil))) rfl rfl rfl (by decide) rfl ?_)
 intro env h2 tk2 ok f2 hR2
 k_extra "sg"
 k_extra "callk"
 k_extra "sg"
 k_extra "callk"
 k_extra "sg"
 k_extra "mkState"
 intro x F3 h3 tk3 cx f3 fr3 l3
 have f3' : Fm h F [] ((env.locals, frm env [("sheet", some (.ref sh))]) :: (x.da, idc x.fs) :: (x.sp, dic (strKind prog w) x.kvs) :: []) F3 h3 := f3
 clear f3
 k_extra "sg"
 refine' c_sheet (x0 := x) (s0 := WS.init M) ?R f3' (by k_extra "tk") (hsh.mono l3) (l3 _ _ e1) (l3 _ _ e2) (l3 _ _ hlo) (hvs.mono fun v o => OpV.mono l3) cx rfl rfl rfl (init_q qM) hok hn ?q
 case R => k_extra "room"
 intro D gs F4 h4 tk4 eD hgs xx
 k_extra "sg"
 have fp := f3'.perm (List.perm_append_comm (l₁ := [_]) (l₂ := [_, _]))
 have fx := Fm.exch (us := x.cells prog w) (us' := []) (rest := [(env.locals, frm env [("sheet", some (.ref sh))])]) fp xx Mus.nil (fun a ha => nomatch ha)
 exact ret D gs F4 _ _ eD hgs (f.back t fx).1 (f.back t fx).2
in #guard_msgs in open Nat
theorem c_gtold {o : Addr} {r : Row} {Q : Value → Shared → Prop} (hR : Room 8 A) (f : Fm h₀ F₀ W mu F h) (gv : GlyV F (.ref o) r)
  (ret : ∀ T tt v1 v2 v3 v4 F' h' tk', F' T = some (tup [.str r.text tt, v1, v2, v3, v4]) → TolV F' v1 r.x → TolV F' v2 r.y → TolV F' v3 r.width → TolV F' v4 r.size → Fm h₀ F₀ W mu F' h' → Le F F' → Q (.ref T) ⟨h', g, d, tk', os⟩) :
  wpAny (model prog w) A (call (.ref 446) [.ref o]) Q E ⟨h, g, d, tk, os⟩ := by
 have t : Tk [] [] mu mu := .nil
 obtain ⟨o', dd, tt, ax, ay, aw, az, e, h1, h2, kx, ky, kw, kz⟩ := gv
 cases e
 refine r_use (enter ["self"] [] [] [("self", some (.ref o))] hR f (f.take t) (by unfold K; k_is) (by unfold K; k_is) (BindsTo.of_eq rfl) rfl rfl (by decide) (by decide) (by decide) (Ga.all .nil) rfl rfl rfl (by decide) rfl ?_)
 intro env h2 tk2 ok f2 hR2
 k_extra "sg"
 k_extra "cDtold"
 intro T3 m3 p3 t3 u3 F3 h3 tk3 e3 n3 f3 l3
 k_extra "sg"
 k_extra "cDtold"
 intro T4 m4 p4 t4 u4 F4 h4 tk4 e4 n4 f4 l4
 k_extra "sg"
 k_extra "cDtold"
 intro T5 m5 p5 t5 u5 F5 h5 tk5 e5 n5 f5 l5
 k_extra "sg"
 k_extra "cDtold"
 intro T6 m6 p6 t6 u6 F6 h6 tk6 e6 n6 f6 l6
 k_extra "sg"
 k_extra "mkt"
 intro T7 F7 h7 f7 l7 e7
 k_extra "sg"
 exact ret T7 tt _ _ _ _ F7 _ _ e7 ⟨T3, _, _, _, _, rfl, ((((l4.trans l5).trans l6).trans l7)) _ _ e3, n3⟩ ⟨T4, _, _, _, _, rfl, ((l5.trans l6).trans l7) _ _ e4, n4⟩ ⟨T5, _, _, _, _, rfl, (l6.trans l7) _ _ e5, n5⟩ ⟨T6, _, _, _, _, rfl, l7 _ _ e6, n6⟩ (f.back t f7).1 (f.back t f7).2
in #guard_msgs in open Nat
end
inductive PairV (F : Fz) (v : Value) (x : Rat) : Prop
  | mk (T v' X tX) (e0 : v = .ref T) (e1 : F T = some (tup [v', .int X tX])) (e2 : NumV F v' x) (e3 : Sc X x) (e4 : Dq 1 10 x) : PairV F v x
theorem PairV.mono {F F' : Fz} (l : Le F F') {v : Value} {x : Rat} (h : PairV F v x) : PairV F' v x := by
 obtain ⟨T, v', X, tX, e, a, b, c, d⟩ := h
 exact ⟨T, v', X, tX, e, l _ _ a, b.mono l, c, d⟩
in #guard_msgs in open Nat
inductive ScV (v : Value) (x : Rat) : Prop
  | mk (X t) (e0 : v = Value.int X t) (e1 : Sc X x) : ScV v x
inductive Six {α : Type} (vs : List α) : Prop
  | mk (a b c d e f : α) (e0 : vs = [a, b, c, d, e, f]) : Six vs
inductive JN (m : Mu) (i : Nat) (vs : List Value) (mu : Mu) (F' : Fz) : Prop
  | mk (xs) (em : mu = m) (a : Al (PairV F') vs xs) (n : xs.length = i) : JN m i vs mu F'
theorem list_6 {α : Type} {vs : List α} (h : vs.length = 6) : Six vs := by
 obtain ⟨_, _, z0, h⟩ := len_s h
 obtain ⟨_, _, z1, h⟩ := len_s h
 obtain ⟨_, _, z2, h⟩ := len_s h
 obtain ⟨_, _, z3, h⟩ := len_s h
 obtain ⟨_, _, z4, h⟩ := len_s h
 obtain ⟨_, _, z5, h⟩ := len_s h
 exact ⟨_, _, _, _, _, _, z0.trans (congrArg _ (z1.trans (congrArg _ (z2.trans (congrArg _ (z3.trans (congrArg _ (z4.trans (congrArg _ (z5.trans (congrArg _ (len_0 h))))))))))))⟩
in #guard_msgs in open Nat
theorem Al.q {F : Fz} {vs : List Value} {xs : List Rat} (a : Al (PairV F) vs xs) : ∀ x ∈ xs, Dq 1 10 x := by
 induction a with
 | nil => exact fun x h => nomatch h
 | cons r _ ih =>
  intro x h
  rcases List.mem_cons.mp h with rfl | h
  ·obtain ⟨_, _, _, _, _, _, _, _, q⟩ := r; exact q
  ·exact ih x h
in #guard_msgs in open Nat
theorem Al.un {α : Type} {R : Value → α → Prop} {l : List Value} {x : α} {xs : List α} (h : Al R l (x :: xs)) : ∃ v vs, l = v :: vs ∧ R v x ∧ Al R vs xs := by cases h with | cons a b => exact ⟨_, _, rfl, a, b⟩ in
theorem Al.unil {α : Type} {R : Value → α → Prop} {l : List Value} (h : Al R l []) : l = [] := by cases h; rfl
in #guard_msgs in open Nat
inductive Al6 {α : Type} (R : Value → α → Prop) (us : List Value) (a b c d e f : α) : Prop
  | mk (v0 v1 v2 v3 v4 v5) (e0 : us = [v0, v1, v2, v3, v4, v5]) (h0 : R v0 a) (h1 : R v1 b) (h2 : R v2 c) (h3 : R v3 d) (h4 : R v4 e) (h5 : R v5 f) : Al6 R us a b c d e f
theorem Al.six {α : Type} {R : Value → α → Prop} {us : List Value} {a b c d e f : α} (h : Al R us [a, b, c, d, e, f]) : Al6 R us a b c d e f := by
 obtain ⟨_, _, z0, h0, h⟩ := h.un
 obtain ⟨_, _, z1, h1, h⟩ := h.un
 obtain ⟨_, _, z2, h2, h⟩ := h.un
 obtain ⟨_, _, z3, h3, h⟩ := h.un
 obtain ⟨_, _, z4, h4, h⟩ := h.un
 obtain ⟨_, _, z5, h5, h⟩ := h.un
 exact ⟨_, _, _, _, _, _, z0.trans (congrArg _ (z1.trans (congrArg _ (z2.trans (congrArg _ (z3.trans (congrArg _ (z4.trans (congrArg _ (z5.trans (congrArg _ h.unil))))))))))), h0, h1, h2, h3, h4, h5⟩
in #guard_msgs in open Nat
theorem six_of {F : Fz} {us : List Value} {a b c d e f : Rat} (h : Al (NumV F) us [a, b, c, d, e, f]) : SixV F us ⟨a, b, c, d, e, f⟩ := by
 obtain ⟨_, _, _, _, _, _, e, h0, h1, h2, h3, h4, h5⟩ := h.six
 exact ⟨_, _, _, _, _, _, e, h0, h1, h2, h3, h4, h5⟩ in
theorem l_6 {a b c d e f a' b' c' d' e' f' : Value} (h0 : a = a') (h1 : b = b') (h2 : c = c') (h3 : d = d') (h4 : e = e') (h5 : f = f') : [a, b, c, d, e, f] = [a', b', c', d', e', f'] := by subst h0 h1 h2 h3 h4 h5; rfl
in #guard_msgs in open Nat
inductive Sc6 (us : List Value) (a b c d e f : Rat) : Prop
  | mk (A B C D E G t0 t1 t2 t3 t4 t5) (e0 : us = [.int A t0, .int B t1, .int C t2, .int D t3, .int E t4, .int G t5]) (s0 : Sc A a) (s1 : Sc B b) (s2 : Sc C c) (s3 : Sc D d) (s4 : Sc E e) (s5 : Sc G f) : Sc6 us a b c d e f
theorem sc_of {us : List Value} {a b c d e f : Rat} (h : Al ScV us [a, b, c, d, e, f]) : Sc6 us a b c d e f := by
 obtain ⟨_, _, _, _, _, _, z, ⟨_, _, y0, s0⟩, ⟨_, _, y1, s1⟩, ⟨_, _, y2, s2⟩, ⟨_, _, y3, s3⟩, ⟨_, _, y4, s4⟩, ⟨_, _, y5, s5⟩⟩ := h.six
 exact ⟨_, _, _, _, _, _, _, _, _, _, _, _, z.trans (l_6 y0 y1 y2 y3 y4 y5), s0, s1, s2, s3, s4, s5⟩
in #guard_msgs in open Nat
theorem q6_of {a b c d e f : Rat} (h : ∀ x ∈ [a, b, c, d, e, f], Dq 1 10 x) : Mq 1 1 10 ⟨a, b, c, d, e, f⟩ :=
 ⟨h a (by simp), h b (by simp), h c (by simp), h d (by simp), h e (by simp), h f (by simp)⟩
in #guard_msgs in open Nat
structure LwV (F : Fz) (l : LS) (vr vp : Value) (s : WS) : Prop where
  st : LsV F l s.st
  row : LMat F vr s.row
  place : LMat F vp s.place
theorem LwV.mono {F F' : Fz} (l : Le F F') {ls : LS} {vr vp : Value} {s : WS} (h : LwV F ls vr vp s) : LwV F' ls vr vp s := ⟨h.st.mono l, h.row.mono l, h.place.mono l⟩
in #guard_msgs in open Nat
noncomputable abbrev lw5 (prog : Program) (w : World) (tp c : Addr) (k : Nat) (wa sa pa dd du : Addr) (vr vp : Value) (l : LS) (b : Bool) (dvs ds : List Value) : Mu :=
  [(tp, tapeC c k), (wa, dic (strKind prog w) (wkvs sa pa vr vp)), (sa, dic (strKind prog w) (l.kvs b)), (dd, lst dvs), (du, lst ds)]
noncomputable def LRet (prog : Program) (w : World) (tp c : Addr) (k : Nat) (wa sa pa dd du : Addr) (dvs ds : List Value) (F : Fz) (h : Heap) (g : Array GenState) (d : Drawn) (os : OsState) (s : WS) (wd : Str) (Q : Value → Shared → Prop) : Prop :=
  ∀ (o : Op) (l' : LS) (vr' vp' dv : Value) (ds' : List Value) (F' : Fz) (h' : Heap) (tk' : Nat), opWord o = wd → Ext F h [tp, wa, sa, dd, du] F' h' → Mus F' h' (lw5 prog w tp c (k + 6) wa sa pa dd du vr' vp' l' (s.op o).st.font (dvs ++ [dv]) (ds ++ ds')) → OpV F' dv o → o.ok s → LwV F' l' vr' vp' (s.op o) →
    (Grow (RowV F') s (s.op o) ds') → Q .none ⟨h', g, d, tk', os⟩
theorem no_due {F : Fz} {s s' : WS} (e : s'.rows = s.rows) : Grow (RowV F) s s' [] := ⟨[], by rw [e, List.append_nil], .nil, Nat.zero_le _⟩
in #guard_msgs in open Nat
section
variable {A : Around} {h₀ h : Heap} {F₀ F : Fz} {W : List Addr} {mu mu' : Mu} {tk : Nat}
theorem c_lstep1 {tp c wa sa pa dd du : Addr} {k : Nat} {l : LS} {s : WS} {vr vp : Value} {dvs ds : List Value} {wd : Str} {tw : Tok} {Q : Value → Shared → Prop} (hR : Room 20 A) (f : Fm h₀ F₀ W mu F h)
  (t : Tk (lw5 prog w tp c k wa sa pa dd du vr vp l s.st.font dvs ds) (lw5 prog w tp c k wa sa pa dd du vr vp l s.st.font dvs ds) mu mu) (hc : TapeOk F c) (hk : k ≤ 1000) (lv : LwV F l vr vp s) (hd : dvs.length ≤ 800) (hw : wd = "Tc" ∨ wd = "Tw" ∨ wd = "Tz" ∨ wd = "TL" ∨ wd = "Ts")
  (ret : LRet prog w tp c k wa sa pa dd du dvs ds F h g d os s wd Q) : wpAny (model prog w) A (call (.ref 884) [.str wd tw, .ref tp, .ref wa, .ref dd, .ref du]) Q E ⟨h, g, d, tk, os⟩ := by
 rcases hw with rfl | rfl | rfl | rfl | rfl
 ·refine r_use (enterC [("word", .str ("Tc" : Str) tw), ("world", .ref wa), ("deeds", .ref dd), ("due", .ref du)] ["state", "operands", "pair", "right", "up", "six", "first", "second", "octets"] [("_law_number", .ref 813), ("_law_draw", .ref 806), ("Name", .ref 209), ("_law_row", .ref 867), ("range", .type "range"), ("_law_six", .ref 839), ("_law_parts", .ref 879), ("_law_octets", .ref 820), ("String", .ref 231), ("_law_show", .ref 860), ("Operation", .ref 407)] [("word", some (.str ("Tc" : Str) tw)), ("world", some (.ref wa)), ("deeds", some (.ref dd)), ("due", some (.ref du)), ("state", none), ("operands", none), ("pair", none), ("right", none), ("up", none), ("six", none), ("first", none), ("second", none), ("octets", none)] (fun L => [(L + 1, cel (some (.ref tp)))]) hR f (f.take t) (by unfold K; k_is) (by unfold K; k_is) (BindsTo.of_eq rfl) rfl rfl (fun L => rfl) (of_decide_eq_true rfl) rfl (by decide) (Ga.all (.cons (gv__law_number) (.cons (gv__law_draw) (.cons (gv_Name) (.cons (gv__law_row) (.cons (gv_range) (.cons (gv__law_six) (.cons (gv__law_parts) (.cons (gv__law_octets) (.cons (gv_String) (.cons (gv__law_show) (.cons (gv_Operation) .nil)))))))))))) rfl rfl rfl (by decide) (by decide) rfl ?_)
  intro env h1 tk1 L ok hcl f2 hR2
  simp only [List.cons_append, List.nil_append] at f2
  have hct := hcl "tape" (L + 1) (.head _)
  have ctp : Cl env "tape" (L + 1) := ⟨.inl hct.1.1, hct.1.2⟩
  k_extra "lp"
  k_extra "mkl"
  intro D3 F3 h3 f3 l3 e3
  k_extra "lp"
  k_extra "mkt"
  intro D4 F4 h4 f4 l4 e4
  k_extra "lp"
  k_extra "callk"
  k_extra "lp"
  k_extra "cNumber"
  intro T5 v5 X5 tX5 y5 F5 h5 tk5 e5 nv sx qx f5 l5
  k_extra "lp"
  k_extra "mkl"
  intro D6 F6 h6 f6 l6 e6
  k_extra "lp"
  k_extra "setD"
  k_extra "lp"
  k_extra "gmA"
  k_extra "lp"
  k_extra "callk"
  k_extra "lp"
  k_extra "mkOperation"
  intro ao dao F7 h7 tk7 eao edao f7 l7
  k_extra "lp"
  k_extra "app"
  case hz => k_extra "om"
  k_extra "lp"
  rename Fm h F _ _ F7 _ => fe
  have fz := fe.lose (.tail .head) (fun _ _ _ e => e) hct.2.h0 hct.2.nw
  have fw := fz.weak (a := tp) (c := tapeC c (k + 1)) (c' := tapeC c (k + 6)) (.tail _ (.head _)) (.tail .head) (fun o => tape_weak (by k_extra "om"))
  have l9 := lv.st
  exact ret (.Tc y5) { l with C := X5, tC := tX5 } vr vp (.ref ao) [] F7 _ _ rfl fw.leave.1 (by rw [List.append_nil]; exact fw.leave.2) ⟨ao, dao, D6, tw, [v5], rfl, eao, edao, l7 _ _ e6, v5, rfl, (nv.mono l6).mono l7⟩ qx (LwV.mono fw.ext.le ⟨⟨l9.ctm, l9.size, sx, l9.Tw, l9.Tz, l9.TL, l9.Ts⟩, lv.row, lv.place⟩) (no_due rfl)
 ·refine r_use (enterC [("word", .str ("Tw" : Str) tw), ("world", .ref wa), ("deeds", .ref dd), ("due", .ref du)] ["state", "operands", "pair", "right", "up", "six", "first", "second", "octets"] [("_law_number", .ref 813), ("_law_draw", .ref 806), ("Name", .ref 209), ("_law_row", .ref 867), ("range", .type "range"), ("_law_six", .ref 839), ("_law_parts", .ref 879), ("_law_octets", .ref 820), ("String", .ref 231), ("_law_show", .ref 860), ("Operation", .ref 407)] [("word", some (.str ("Tw" : Str) tw)), ("world", some (.ref wa)), ("deeds", some (.ref dd)), ("due", some (.ref du)), ("state", none), ("operands", none), ("pair", none), ("right", none), ("up", none), ("six", none), ("first", none), ("second", none), ("octets", none)] (fun L => [(L + 1, cel (some (.ref tp)))]) hR f (f.take t) (by unfold K; k_is) (by unfold K; k_is) (BindsTo.of_eq rfl) rfl rfl (fun L => rfl) (of_decide_eq_true rfl) rfl (by decide) (Ga.all (.cons (gv__law_number) (.cons (gv__law_draw) (.cons (gv_Name) (.cons (gv__law_row) (.cons (gv_range) (.cons (gv__law_six) (.cons (gv__law_parts) (.cons (gv__law_octets) (.cons (gv_String) (.cons (gv__law_show) (.cons (gv_Operation) .nil)))))))))))) rfl rfl rfl (by decide) (by decide) rfl ?_)
  intro env h1 tk1 L ok hcl f2 hR2
  simp only [List.cons_append, List.nil_append] at f2
  have hct := hcl "tape" (L + 1) (.head _)
  have ctp : Cl env "tape" (L + 1) := ⟨.inl hct.1.1, hct.1.2⟩
  k_extra "lp"
  k_extra "mkl"
  intro D3 F3 h3 f3 l3 e3
  k_extra "lp"
  k_extra "mkt"
  intro D4 F4 h4 f4 l4 e4
  k_extra "lp"
  k_extra "callk"
  k_extra "lp"
  k_extra "cNumber"
  intro T5 v5 X5 tX5 y5 F5 h5 tk5 e5 nv sx qx f5 l5
  k_extra "lp"
  k_extra "mkl"
  intro D6 F6 h6 f6 l6 e6
  k_extra "lp"
  k_extra "setD"
  k_extra "lp"
  k_extra "gmA"
  k_extra "lp"
  k_extra "callk"
  k_extra "lp"
  k_extra "mkOperation"
  intro ao dao F7 h7 tk7 eao edao f7 l7
  k_extra "lp"
  k_extra "app"
  case hz => k_extra "om"
  k_extra "lp"
  rename Fm h F _ _ F7 _ => fe
  have fz := fe.lose (.tail .head) (fun _ _ _ e => e) hct.2.h0 hct.2.nw
  have fw := fz.weak (a := tp) (c := tapeC c (k + 1)) (c' := tapeC c (k + 6)) (.tail _ (.head _)) (.tail .head) (fun o => tape_weak (by k_extra "om"))
  have l9 := lv.st
  exact ret (.Tw y5) { l with D := X5, tD := tX5 } vr vp (.ref ao) [] F7 _ _ rfl fw.leave.1 (by rw [List.append_nil]; exact fw.leave.2) ⟨ao, dao, D6, tw, [v5], rfl, eao, edao, l7 _ _ e6, v5, rfl, (nv.mono l6).mono l7⟩ qx (LwV.mono fw.ext.le ⟨⟨l9.ctm, l9.size, l9.Tc, sx, l9.Tz, l9.TL, l9.Ts⟩, lv.row, lv.place⟩) (no_due rfl)
 ·refine r_use (enterC [("word", .str ("Tz" : Str) tw), ("world", .ref wa), ("deeds", .ref dd), ("due", .ref du)] ["state", "operands", "pair", "right", "up", "six", "first", "second", "octets"] [("_law_number", .ref 813), ("_law_draw", .ref 806), ("Name", .ref 209), ("_law_row", .ref 867), ("range", .type "range"), ("_law_six", .ref 839), ("_law_parts", .ref 879), ("_law_octets", .ref 820), ("String", .ref 231), ("_law_show", .ref 860), ("Operation", .ref 407)] [("word", some (.str ("Tz" : Str) tw)), ("world", some (.ref wa)), ("deeds", some (.ref dd)), ("due", some (.ref du)), ("state", none), ("operands", none), ("pair", none), ("right", none), ("up", none), ("six", none), ("first", none), ("second", none), ("octets", none)] (fun L => [(L + 1, cel (some (.ref tp)))]) hR f (f.take t) (by unfold K; k_is) (by unfold K; k_is) (BindsTo.of_eq rfl) rfl rfl (fun L => rfl) (of_decide_eq_true rfl) rfl (by decide) (Ga.all (.cons (gv__law_number) (.cons (gv__law_draw) (.cons (gv_Name) (.cons (gv__law_row) (.cons (gv_range) (.cons (gv__law_six) (.cons (gv__law_parts) (.cons (gv__law_octets) (.cons (gv_String) (.cons (gv__law_show) (.cons (gv_Operation) .nil)))))))))))) rfl rfl rfl (by decide) (by decide) rfl ?_)
  intro env h1 tk1 L ok hcl f2 hR2
  simp only [List.cons_append, List.nil_append] at f2
  have hct := hcl "tape" (L + 1) (.head _)
  have ctp : Cl env "tape" (L + 1) := ⟨.inl hct.1.1, hct.1.2⟩
  k_extra "lp"
  k_extra "mkl"
  intro D3 F3 h3 f3 l3 e3
  k_extra "lp"
  k_extra "mkt"
  intro D4 F4 h4 f4 l4 e4
  k_extra "lp"
  k_extra "callk"
  k_extra "lp"
  k_extra "cNumber"
  intro T5 v5 X5 tX5 y5 F5 h5 tk5 e5 nv sx qx f5 l5
  k_extra "lp"
  k_extra "mkl"
  intro D6 F6 h6 f6 l6 e6
  k_extra "lp"
  k_extra "setD"
  k_extra "lp"
  k_extra "gmA"
  k_extra "lp"
  k_extra "callk"
  k_extra "lp"
  k_extra "mkOperation"
  intro ao dao F7 h7 tk7 eao edao f7 l7
  k_extra "lp"
  k_extra "app"
  case hz => k_extra "om"
  k_extra "lp"
  rename Fm h F _ _ F7 _ => fe
  have fz := fe.lose (.tail .head) (fun _ _ _ e => e) hct.2.h0 hct.2.nw
  have fw := fz.weak (a := tp) (c := tapeC c (k + 1)) (c' := tapeC c (k + 6)) (.tail _ (.head _)) (.tail .head) (fun o => tape_weak (by k_extra "om"))
  have l9 := lv.st
  exact ret (.Tz y5) { l with Z := X5, tZ := tX5 } vr vp (.ref ao) [] F7 _ _ rfl fw.leave.1 (by rw [List.append_nil]; exact fw.leave.2) ⟨ao, dao, D6, tw, [v5], rfl, eao, edao, l7 _ _ e6, v5, rfl, (nv.mono l6).mono l7⟩ qx (LwV.mono fw.ext.le ⟨⟨l9.ctm, l9.size, l9.Tc, l9.Tw, sx, l9.TL, l9.Ts⟩, lv.row, lv.place⟩) (no_due rfl)
 ·refine r_use (enterC [("word", .str ("TL" : Str) tw), ("world", .ref wa), ("deeds", .ref dd), ("due", .ref du)] ["state", "operands", "pair", "right", "up", "six", "first", "second", "octets"] [("_law_number", .ref 813), ("_law_draw", .ref 806), ("Name", .ref 209), ("_law_row", .ref 867), ("range", .type "range"), ("_law_six", .ref 839), ("_law_parts", .ref 879), ("_law_octets", .ref 820), ("String", .ref 231), ("_law_show", .ref 860), ("Operation", .ref 407)] [("word", some (.str ("TL" : Str) tw)), ("world", some (.ref wa)), ("deeds", some (.ref dd)), ("due", some (.ref du)), ("state", none), ("operands", none), ("pair", none), ("right", none), ("up", none), ("six", none), ("first", none), ("second", none), ("octets", none)] (fun L => [(L + 1, cel (some (.ref tp)))]) hR f (f.take t) (by unfold K; k_is) (by unfold K; k_is) (BindsTo.of_eq rfl) rfl rfl (fun L => rfl) (of_decide_eq_true rfl) rfl (by decide) (Ga.all (.cons (gv__law_number) (.cons (gv__law_draw) (.cons (gv_Name) (.cons (gv__law_row) (.cons (gv_range) (.cons (gv__law_six) (.cons (gv__law_parts) (.cons (gv__law_octets) (.cons (gv_String) (.cons (gv__law_show) (.cons (gv_Operation) .nil)))))))))))) rfl rfl rfl (by decide) (by decide) rfl ?_)
  intro env h1 tk1 L ok hcl f2 hR2
  simp only [List.cons_append, List.nil_append] at f2
  have hct := hcl "tape" (L + 1) (.head _)
  have ctp : Cl env "tape" (L + 1) := ⟨.inl hct.1.1, hct.1.2⟩
  k_extra "lp"
  k_extra "mkl"
  intro D3 F3 h3 f3 l3 e3
  k_extra "lp"
  k_extra "mkt"
  intro D4 F4 h4 f4 l4 e4
  k_extra "lp"
  k_extra "callk"
  k_extra "lp"
  k_extra "cNumber"
  intro T5 v5 X5 tX5 y5 F5 h5 tk5 e5 nv sx qx f5 l5
  k_extra "lp"
  k_extra "mkl"
  intro D6 F6 h6 f6 l6 e6
  k_extra "lp"
  k_extra "setD"
  k_extra "lp"
  k_extra "gmA"
  k_extra "lp"
  k_extra "callk"
  k_extra "lp"
  k_extra "mkOperation"
  intro ao dao F7 h7 tk7 eao edao f7 l7
  k_extra "lp"
  k_extra "app"
  case hz => k_extra "om"
  k_extra "lp"
  rename Fm h F _ _ F7 _ => fe
  have fz := fe.lose (.tail .head) (fun _ _ _ e => e) hct.2.h0 hct.2.nw
  have fw := fz.weak (a := tp) (c := tapeC c (k + 1)) (c' := tapeC c (k + 6)) (.tail _ (.head _)) (.tail .head) (fun o => tape_weak (by k_extra "om"))
  have l9 := lv.st
  exact ret (.TL y5) { l with L := X5, tL := tX5 } vr vp (.ref ao) [] F7 _ _ rfl fw.leave.1 (by rw [List.append_nil]; exact fw.leave.2) ⟨ao, dao, D6, tw, [v5], rfl, eao, edao, l7 _ _ e6, v5, rfl, (nv.mono l6).mono l7⟩ qx (LwV.mono fw.ext.le ⟨⟨l9.ctm, l9.size, l9.Tc, l9.Tw, l9.Tz, sx, l9.Ts⟩, lv.row, lv.place⟩) (no_due rfl)
 ·refine r_use (enterC [("word", .str ("Ts" : Str) tw), ("world", .ref wa), ("deeds", .ref dd), ("due", .ref du)] ["state", "operands", "pair", "right", "up", "six", "first", "second", "octets"] [("_law_number", .ref 813), ("_law_draw", .ref 806), ("Name", .ref 209), ("_law_row", .ref 867), ("range", .type "range"), ("_law_six", .ref 839), ("_law_parts", .ref 879), ("_law_octets", .ref 820), ("String", .ref 231), ("_law_show", .ref 860), ("Operation", .ref 407)] [("word", some (.str ("Ts" : Str) tw)), ("world", some (.ref wa)), ("deeds", some (.ref dd)), ("due", some (.ref du)), ("state", none), ("operands", none), ("pair", none), ("right", none), ("up", none), ("six", none), ("first", none), ("second", none), ("octets", none)] (fun L => [(L + 1, cel (some (.ref tp)))]) hR f (f.take t) (by unfold K; k_is) (by unfold K; k_is) (BindsTo.of_eq rfl) rfl rfl (fun L => rfl) (of_decide_eq_true rfl) rfl (by decide) (Ga.all (.cons (gv__law_number) (.cons (gv__law_draw) (.cons (gv_Name) (.cons (gv__law_row) (.cons (gv_range) (.cons (gv__law_six) (.cons (gv__law_parts) (.cons (gv__law_octets) (.cons (gv_String) (.cons (gv__law_show) (.cons (gv_Operation) .nil)))))))))))) rfl rfl rfl (by decide) (by decide) rfl ?_)
  intro env h1 tk1 L ok hcl f2 hR2
  simp only [List.cons_append, List.nil_append] at f2
  have hct := hcl "tape" (L + 1) (.head _)
  have ctp : Cl env "tape" (L + 1) := ⟨.inl hct.1.1, hct.1.2⟩
  k_extra "lp"
  k_extra "mkl"
  intro D3 F3 h3 f3 l3 e3
  k_extra "lp"
  k_extra "mkt"
  intro D4 F4 h4 f4 l4 e4
  k_extra "lp"
  k_extra "callk"
  k_extra "lp"
  k_extra "cNumber"
  intro T5 v5 X5 tX5 y5 F5 h5 tk5 e5 nv sx qx f5 l5
  k_extra "lp"
  k_extra "mkl"
  intro D6 F6 h6 f6 l6 e6
  k_extra "lp"
  k_extra "setD"
  k_extra "lp"
  k_extra "gmA"
  k_extra "lp"
  k_extra "callk"
  k_extra "lp"
  k_extra "mkOperation"
  intro ao dao F7 h7 tk7 eao edao f7 l7
  k_extra "lp"
  k_extra "app"
  case hz => k_extra "om"
  k_extra "lp"
  rename Fm h F _ _ F7 _ => fe
  have fz := fe.lose (.tail .head) (fun _ _ _ e => e) hct.2.h0 hct.2.nw
  have fw := fz.weak (a := tp) (c := tapeC c (k + 1)) (c' := tapeC c (k + 6)) (.tail _ (.head _)) (.tail .head) (fun o => tape_weak (by k_extra "om"))
  have l9 := lv.st
  exact ret (.Ts y5) { l with R := X5, tR := tX5 } vr vp (.ref ao) [] F7 _ _ rfl fw.leave.1 (by rw [List.append_nil]; exact fw.leave.2) ⟨ao, dao, D6, tw, [v5], rfl, eao, edao, l7 _ _ e6, v5, rfl, (nv.mono l6).mono l7⟩ qx (LwV.mono fw.ext.le ⟨⟨l9.ctm, l9.size, l9.Tc, l9.Tw, l9.Tz, l9.TL, sx⟩, lv.row, lv.place⟩) (no_due rfl)
in #guard_msgs in open Nat
end
section
variable {A : Around} {h₀ h : Heap} {F₀ F : Fz} {W : List Addr} {mu mu' : Mu} {tk : Nat}
theorem c_lrow2 {wa sa pa : Addr} {vr vp : Value} {row : M6} {R U : Int} {tr tu : Tok} {x y : Rat} {N e : Nat} {Q : Value → Shared → Prop} (hR : Room 12 A) (f : Fm h₀ F₀ W mu F h)
  (t : Tk [(wa, dic (strKind prog w) (wkvs sa pa vr vp))] [(wa, dic (strKind prog w) (wkvs sa pa vr vp))] mu mu) (hr : LMat F vr row) (qr : Mq 1 10 N row) (hx : Sc R x) (hy : Sc U y) (qx : Dq 1 e x) (qy : Dq 1 e y) (he : 1 ≤ e) (hn : e + N ≤ 900000)
  (ret : ∀ v F' h' tk', Ext F h [wa] F' h' → Mus F' h' [(wa, dic (strKind prog w) (wkvs sa pa v v))] → LMat F' v ((M6.shift x y).mul row) → Q .none ⟨h', g, d, tk', os⟩) :
  wpAny (model prog w) A (call (.ref 867) [.ref wa, .int R tr, .int U tu]) Q E ⟨h, g, d, tk, os⟩ := c_lrow (c := 0) hR f t hr qr hx hy qx qy he hn ret
in #guard_msgs in open Nat
end
section
variable {A : Around} {h₀ h : Heap} {F₀ F : Fz} {W : List Addr} {mu mu' : Mu} {tk : Nat}
theorem c_lstep_Td {tp c wa sa pa dd du : Addr} {k : Nat} {l : LS} {s : WS} {vr vp : Value} {dvs ds : List Value} {tw : Tok} {cc N : Nat} {Q : Value → Shared → Prop} (hR : Room 20 A) (f : Fm h₀ F₀ W mu F h)
  (t : Tk (lw5 prog w tp c k wa sa pa dd du vr vp l s.st.font dvs ds) (lw5 prog w tp c k wa sa pa dd du vr vp l s.st.font dvs ds) mu mu) (hc : TapeOk F c) (hk : k ≤ 1000) (lv : LwV F l vr vp s) (qs : WsQ cc N s) (hcc : cc ≤ 24) (hN : N ≤ 40000) (hd : dvs.length ≤ 800) (hdu : ds.length ≤ 700) (htx : s.text = true)
  (ret : LRet prog w tp c k wa sa pa dd du dvs ds F h g d os s "Td" Q) : wpAny (model prog w) A (call (.ref 884) [.str "Td" tw, .ref tp, .ref wa, .ref dd, .ref du]) Q E ⟨h, g, d, tk, os⟩ := by
 have l9 := lv.st
 refine r_use (enterC [("word", .str ("Td" : Str) tw), ("world", .ref wa), ("deeds", .ref dd), ("due", .ref du)] ["state", "operands", "pair", "right", "up", "six", "first", "second", "octets"] [("_law_number", .ref 813), ("_law_draw", .ref 806), ("Name", .ref 209), ("_law_row", .ref 867), ("range", .type "range"), ("_law_six", .ref 839), ("_law_parts", .ref 879), ("_law_octets", .ref 820), ("String", .ref 231), ("_law_show", .ref 860), ("Operation", .ref 407)] [("word", some (.str ("Td" : Str) tw)), ("world", some (.ref wa)), ("deeds", some (.ref dd)), ("due", some (.ref du)), ("state", none), ("operands", none), ("pair", none), ("right", none), ("up", none), ("six", none), ("first", none), ("second", none), ("octets", none)] (fun L => [(L + 1, cel (some (.ref tp)))]) hR f (f.take t) (by unfold K; k_is) (by unfold K; k_is) (BindsTo.of_eq rfl) rfl rfl (fun L => rfl) (of_decide_eq_true rfl) rfl (by decide) (Ga.all (.cons (gv__law_number) (.cons (gv__law_draw) (.cons (gv_Name) (.cons (gv__law_row) (.cons (gv_range) (.cons (gv__law_six) (.cons (gv__law_parts) (.cons (gv__law_octets) (.cons (gv_String) (.cons (gv__law_show) (.cons (gv_Operation) .nil)))))))))))) rfl rfl rfl (by decide) (by decide) rfl ?_)
 intro env h1 tk1 L ok hcl f2 hR2
 simp only [List.cons_append, List.nil_append] at f2
 have hct := hcl "tape" (L + 1) (.head _)
 have ctp : Cl env "tape" (L + 1) := ⟨.inl hct.1.1, hct.1.2⟩
 k_extra "lp"
 k_extra "mkl"
 intro D3 F3 h3 f3 l3 e3
 k_extra "lp"
 k_extra "mkt"
 intro D4 F4 h4 f4 l4 e4
 k_extra "lp"
 k_extra "mkt"
 intro D5 F5 h5 f5 l5 e5
 k_extra "lp"
 k_extra "callk"
 k_extra "lp"
 k_extra "cNumber"
 intro Ta va Xa tXa ya F10 h10 tk10 e10 nva sxa qxa f10 l10
 k_extra "lp"
 k_extra "callk"
 k_extra "lp"
 k_extra "cNumber"
 intro Tb vb Xb tXb yb F11 h11 tk11 e11 nvb sxb qxb f11 l11
 k_extra "lp"
 k_extra "mkl"
 intro D12 F12 h12 f12 l12 e12
 k_extra "lp"
 k_extra "callk"
 k_extra "lp"
 k_extra "cLrow2"
 case hr => exact lv.row.mono (by k_extra "le")
 case qr => exact qs.row
 case hx => exact sxa
 case hy => exact sxb
 case qx => exact qxa
 case qy => exact qxb
 case he => decide
 case hn => k_extra "om"
 intro vrow F13 h13 tk13 xx m hrow
 rename Fm h F _ _ _ _ => fc
 have fR := fc.tkW m xx rfl (by k_extra "tk")
 clear fc
 have lx := xx.le
 k_extra "lp"
 k_extra "gmA"
 k_extra "lp"
 k_extra "callk"
 k_extra "lp"
 k_extra "mkOperation"
 intro ao dao F14 h14 tk14 eao edao f14 l14
 k_extra "lp"
 k_extra "app"
 case hz => k_extra "om"
 k_extra "lp"
 rename Fm h F _ _ F14 _ => fe
 have fz := fe.lose (.tail .head) (fun _ _ _ e => e) hct.2.h0 hct.2.nw
 have fw := fz.weak (a := tp) (c := tapeC c (k + 2)) (c' := tapeC c (k + 6)) (.tail _ (.head _)) (.tail .head) (fun o => tape_weak (by k_extra "om"))
 have na : NumV F14 va ya := by k_extra "num"
 have nb : NumV F14 vb yb := by k_extra "num"
 have eo : F14 D12 = some (lst [va, vb]) := by k_extra "fz"
 exact ret (.Td ya yb) l vrow vrow (.ref ao) [] F14 _ _ rfl fw.leave.1 (by rw [List.append_nil]; exact fw.leave.2) ⟨ao, dao, D12, tw, [va, vb], rfl, eao, edao, eo, va, vb, rfl, na, nb⟩ ⟨htx, qxa, qxb⟩ ⟨LsV.mono fw.ext.le l9, hrow.mono l14, hrow.mono l14⟩ (no_due rfl)
in #guard_msgs in open Nat
theorem c_lstep_TD {tp c wa sa pa dd du : Addr} {k : Nat} {l : LS} {s : WS} {vr vp : Value} {dvs ds : List Value} {tw : Tok} {cc N : Nat} {Q : Value → Shared → Prop} (hR : Room 20 A) (f : Fm h₀ F₀ W mu F h)
  (t : Tk (lw5 prog w tp c k wa sa pa dd du vr vp l s.st.font dvs ds) (lw5 prog w tp c k wa sa pa dd du vr vp l s.st.font dvs ds) mu mu) (hc : TapeOk F c) (hk : k ≤ 1000) (lv : LwV F l vr vp s) (qs : WsQ cc N s) (hcc : cc ≤ 24) (hN : N ≤ 40000) (hd : dvs.length ≤ 800) (hdu : ds.length ≤ 700) (htx : s.text = true)
  (ret : LRet prog w tp c k wa sa pa dd du dvs ds F h g d os s "TD" Q) : wpAny (model prog w) A (call (.ref 884) [.str "TD" tw, .ref tp, .ref wa, .ref dd, .ref du]) Q E ⟨h, g, d, tk, os⟩ := by
 have l9 := lv.st
 refine r_use (enterC [("word", .str ("TD" : Str) tw), ("world", .ref wa), ("deeds", .ref dd), ("due", .ref du)] ["state", "operands", "pair", "right", "up", "six", "first", "second", "octets"] [("_law_number", .ref 813), ("_law_draw", .ref 806), ("Name", .ref 209), ("_law_row", .ref 867), ("range", .type "range"), ("_law_six", .ref 839), ("_law_parts", .ref 879), ("_law_octets", .ref 820), ("String", .ref 231), ("_law_show", .ref 860), ("Operation", .ref 407)] [("word", some (.str ("TD" : Str) tw)), ("world", some (.ref wa)), ("deeds", some (.ref dd)), ("due", some (.ref du)), ("state", none), ("operands", none), ("pair", none), ("right", none), ("up", none), ("six", none), ("first", none), ("second", none), ("octets", none)] (fun L => [(L + 1, cel (some (.ref tp)))]) hR f (f.take t) (by unfold K; k_is) (by unfold K; k_is) (BindsTo.of_eq rfl) rfl rfl (fun L => rfl) (of_decide_eq_true rfl) rfl (by decide) (Ga.all (.cons (gv__law_number) (.cons (gv__law_draw) (.cons (gv_Name) (.cons (gv__law_row) (.cons (gv_range) (.cons (gv__law_six) (.cons (gv__law_parts) (.cons (gv__law_octets) (.cons (gv_String) (.cons (gv__law_show) (.cons (gv_Operation) .nil)))))))))))) rfl rfl rfl (by decide) (by decide) rfl ?_)
 intro env h1 tk1 L ok hcl f2 hR2
 simp only [List.cons_append, List.nil_append] at f2
 have hct := hcl "tape" (L + 1) (.head _)
 have ctp : Cl env "tape" (L + 1) := ⟨.inl hct.1.1, hct.1.2⟩
 k_extra "lp"
 k_extra "mkl"
 intro D3 F3 h3 f3 l3 e3
 k_extra "lp"
 k_extra "mkt"
 intro D4 F4 h4 f4 l4 e4
 k_extra "lp"
 k_extra "mkt"
 intro D5 F5 h5 f5 l5 e5
 k_extra "lp"
 k_extra "callk"
 k_extra "lp"
 k_extra "cNumber"
 intro Ta va Xa tXa ya F10 h10 tk10 e10 nva sxa qxa f10 l10
 k_extra "lp"
 k_extra "callk"
 k_extra "lp"
 k_extra "cNumber"
 intro Tb vb Xb tXb yb F11 h11 tk11 e11 nvb sxb qxb f11 l11
 k_extra "lp"
 k_extra "mkl"
 intro D12 F12 h12 f12 l12 e12
 k_extra "lp"
 k_extra "setD"
 k_extra "lp"
 k_extra "callk"
 k_extra "lp"
 k_extra "cLrow2"
 case hr => exact lv.row.mono (by k_extra "le")
 case qr => exact qs.row
 case hx => exact sxa
 case hy => exact sxb
 case qx => exact qxa
 case qy => exact qxb
 case he => decide
 case hn => k_extra "om"
 intro vrow F13 h13 tk13 xx m hrow
 rename Fm h F _ _ _ _ => fc
 have fR := fc.tkW m xx rfl (by k_extra "tk")
 clear fc
 have lx := xx.le
 k_extra "lp"
 k_extra "gmA"
 k_extra "lp"
 k_extra "callk"
 k_extra "lp"
 k_extra "mkOperation"
 intro ao dao F14 h14 tk14 eao edao f14 l14
 k_extra "lp"
 k_extra "app"
 case hz => k_extra "om"
 k_extra "lp"
 rename Fm h F _ _ F14 _ => fe
 have fz := fe.lose (.tail .head) (fun _ _ _ e => e) hct.2.h0 hct.2.nw
 have fw := fz.weak (a := tp) (c := tapeC c (k + 2)) (c' := tapeC c (k + 6)) (.tail _ (.head _)) (.tail .head) (fun o => tape_weak (by k_extra "om"))
 have na : NumV F14 va ya := by k_extra "num"
 have nb : NumV F14 vb yb := by k_extra "num"
 have eo : F14 D12 = some (lst [va, vb]) := by k_extra "fz"
 exact ret (.TD ya yb) { l with L := -Xb, tL := _ } vrow vrow (.ref ao) [] F14 _ _ rfl fw.leave.1 (by rw [List.append_nil]; exact fw.leave.2) ⟨ao, dao, D12, tw, [va, vb], rfl, eao, edao, eo, va, vb, rfl, na, nb⟩ ⟨htx, qxa, qxb⟩ ⟨LsV.mono fw.ext.le ⟨l9.ctm, l9.size, l9.Tc, l9.Tw, l9.Tz, sxb.neg, l9.Ts⟩, hrow.mono l14, hrow.mono l14⟩ (no_due rfl)
in #guard_msgs in open Nat
end
section
variable {A : Around} {h₀ h : Heap} {F₀ F : Fz} {W : List Addr} {mu mu' : Mu} {tk : Nat}
theorem c_lstep_Tf {tp c wa sa pa dd du : Addr} {k : Nat} {l : LS} {s : WS} {vr vp : Value} {dvs ds : List Value} {tw : Tok} {cc N : Nat} {Q : Value → Shared → Prop} (hR : Room 20 A) (f : Fm h₀ F₀ W mu F h)
  (t : Tk (lw5 prog w tp c k wa sa pa dd du vr vp l s.st.font dvs ds) (lw5 prog w tp c k wa sa pa dd du vr vp l s.st.font dvs ds) mu mu) (hc : TapeOk F c) (hk : k ≤ 1000) (lv : LwV F l vr vp s) (qs : WsQ cc N s) (hcc : cc ≤ 24) (hN : N ≤ 40000) (hd : dvs.length ≤ 800) (hdu : ds.length ≤ 700)
  (ret : LRet prog w tp c k wa sa pa dd du dvs ds F h g d os s "Tf" Q) : wpAny (model prog w) A (call (.ref 884) [.str "Tf" tw, .ref tp, .ref wa, .ref dd, .ref du]) Q E ⟨h, g, d, tk, os⟩ := by
 have l9 := lv.st
 refine r_use (enterC [("word", .str ("Tf" : Str) tw), ("world", .ref wa), ("deeds", .ref dd), ("due", .ref du)] ["state", "operands", "pair", "right", "up", "six", "first", "second", "octets"] [("_law_number", .ref 813), ("_law_draw", .ref 806), ("Name", .ref 209), ("_law_row", .ref 867), ("range", .type "range"), ("_law_six", .ref 839), ("_law_parts", .ref 879), ("_law_octets", .ref 820), ("String", .ref 231), ("_law_show", .ref 860), ("Operation", .ref 407)] [("word", some (.str ("Tf" : Str) tw)), ("world", some (.ref wa)), ("deeds", some (.ref dd)), ("due", some (.ref du)), ("state", none), ("operands", none), ("pair", none), ("right", none), ("up", none), ("six", none), ("first", none), ("second", none), ("octets", none)] (fun L => [(L + 1, cel (some (.ref tp)))]) hR f (f.take t) (by unfold K; k_is) (by unfold K; k_is) (BindsTo.of_eq rfl) rfl rfl (fun L => rfl) (of_decide_eq_true rfl) rfl (by decide) (Ga.all (.cons (gv__law_number) (.cons (gv__law_draw) (.cons (gv_Name) (.cons (gv__law_row) (.cons (gv_range) (.cons (gv__law_six) (.cons (gv__law_parts) (.cons (gv__law_octets) (.cons (gv_String) (.cons (gv__law_show) (.cons (gv_Operation) .nil)))))))))))) rfl rfl rfl (by decide) (by decide) rfl ?_)
 intro env h1 tk1 L ok hcl f2 hR2
 simp only [List.cons_append, List.nil_append] at f2
 have hct := hcl "tape" (L + 1) (.head _)
 have ctp : Cl env "tape" (L + 1) := ⟨.inl hct.1.1, hct.1.2⟩
 k_extra "lp"
 k_extra "mkl"
 intro D3 F3 h3 f3 l3 e3
 k_extra "lp"
 k_extra "mkt"
 intro D4 F4 h4 f4 l4 e4
 k_extra "lp"
 k_extra "mkt"
 intro D5 F5 h5 f5 l5 e5
 k_extra "lp"
 k_extra "callk"
 k_extra "lp"
 k_extra "cDraw"
 intro r tr F6 h6 tk6 r0 r1 f6 l6
 k_extra "lp"
 have rr : r = 0 ∨ r = 1 := by k_extra "om"
 rcases rr with rfl | rfl
 ·k_extra "lp"
  k_extra "setD"
  k_extra "lp"
  k_extra "callk"
  k_extra "lp"
  k_extra "cNumber"
  intro Ta va Xa tXa ya F7 h7 tk7 e7 nva sxa qxa f7 l7
  k_extra "lp"
  k_extra "callk"
  k_extra "lp"
  k_extra "mkName"
  intro na dna F8 h8 tk8 ena edna f8 l8
  k_extra "lp"
  k_extra "mkl"
  intro D9 F9 h9 f9 l9' e9
  k_extra "lp"
  k_extra "setD"
  k_extra "lp"
  k_extra "gmA"
  k_extra "lp"
  k_extra "callk"
  k_extra "lp"
  k_extra "mkOperation"
  intro ao dao F10 h10 tk10 eao edao f10 l10
  k_extra "lp"
  k_extra "app"
  case hz => k_extra "om"
  k_extra "lp"
  rename Fm h F _ _ F10 _ => fe
  have fz := fe.lose (.tail .head) (fun _ _ _ e => e) hct.2.h0 hct.2.nw
  have fw := fz.weak (a := tp) (c := tapeC c (k + 1 + 1)) (c' := tapeC c (k + 6)) (.tail _ (.head _)) (.tail .head) (fun o => tape_weak (by k_extra "om"))
  have n1 : NameV F10 (.ref na) true := ⟨na, dna, _, rfl, (l9'.trans l10) _ _ ena, (l9'.trans l10) _ _ edna⟩
  have n2 : NumV F10 va ya := by k_extra "num"
  have eo : F10 D9 = some (lst [.ref na, va]) := by k_extra "fz"
  exact ret (.Tf true ya) { l with tf := _, S := Xa, tS := tXa } vr vp (.ref ao) [] F10 _ _ rfl fw.leave.1 (by rw [List.append_nil]; exact fw.leave.2) ⟨ao, dao, D9, tw, [.ref na, va], rfl, eao, edao, eo, .ref na, va, rfl, n1, n2⟩ qxa (LwV.mono fw.ext.le ⟨⟨l9.ctm, sxa, l9.Tc, l9.Tw, l9.Tz, l9.TL, l9.Ts⟩, lv.row, lv.place⟩) (no_due rfl)
 ·k_extra "lp"
  k_extra "setD"
  k_extra "lp"
  k_extra "callk"
  k_extra "lp"
  k_extra "cNumber"
  intro Ta va Xa tXa ya F7 h7 tk7 e7 nva sxa qxa f7 l7
  k_extra "lp"
  k_extra "callk"
  k_extra "lp"
  k_extra "mkName"
  intro na dna F8 h8 tk8 ena edna f8 l8
  k_extra "lp"
  k_extra "mkl"
  intro D9 F9 h9 f9 l9' e9
  k_extra "lp"
  k_extra "setD"
  k_extra "lp"
  k_extra "gmA"
  k_extra "lp"
  k_extra "callk"
  k_extra "lp"
  k_extra "mkOperation"
  intro ao dao F10 h10 tk10 eao edao f10 l10
  k_extra "lp"
  k_extra "app"
  case hz => k_extra "om"
  k_extra "lp"
  rename Fm h F _ _ F10 _ => fe
  have fz := fe.lose (.tail .head) (fun _ _ _ e => e) hct.2.h0 hct.2.nw
  have fw := fz.weak (a := tp) (c := tapeC c (k + 1 + 1)) (c' := tapeC c (k + 6)) (.tail _ (.head _)) (.tail .head) (fun o => tape_weak (by k_extra "om"))
  have n1 : NameV F10 (.ref na) false := ⟨na, dna, _, rfl, (l9'.trans l10) _ _ ena, (l9'.trans l10) _ _ edna⟩
  have n2 : NumV F10 va ya := by k_extra "num"
  have eo : F10 D9 = some (lst [.ref na, va]) := by k_extra "fz"
  exact ret (.Tf false ya) { l with tf := _, S := Xa, tS := tXa } vr vp (.ref ao) [] F10 _ _ rfl fw.leave.1 (by rw [List.append_nil]; exact fw.leave.2) ⟨ao, dao, D9, tw, [.ref na, va], rfl, eao, edao, eo, .ref na, va, rfl, n1, n2⟩ qxa (LwV.mono fw.ext.le ⟨⟨l9.ctm, sxa, l9.Tc, l9.Tw, l9.Tz, l9.TL, l9.Ts⟩, lv.row, lv.place⟩) (no_due rfl)
in #guard_msgs in open Nat
theorem c_lstep_TJ {tp c wa sa pa dd du : Addr} {k : Nat} {l : LS} {s : WS} {vr vp : Value} {dvs ds : List Value} {tw : Tok} {cc N : Nat} {Q : Value → Shared → Prop} (hR : Room 20 A) (f : Fm h₀ F₀ W mu F h)
  (t : Tk (lw5 prog w tp c k wa sa pa dd du vr vp l s.st.font dvs ds) (lw5 prog w tp c k wa sa pa dd du vr vp l s.st.font dvs ds) mu mu) (hc : TapeOk F c) (hk : k ≤ 1000) (lv : LwV F l vr vp s) (qs : WsQ cc N s) (hcc : cc ≤ 24) (hN : N ≤ 40000) (hd : dvs.length ≤ 800) (hdu : ds.length ≤ 700) (htx : s.text = true) (hset : s.st.set = true)
  (ret : LRet prog w tp c k wa sa pa dd du dvs ds F h g d os s "TJ" Q) : wpAny (model prog w) A (call (.ref 884) [.str "TJ" tw, .ref tp, .ref wa, .ref dd, .ref du]) Q E ⟨h, g, d, tk, os⟩ := by
 have l9 := lv.st
 refine r_use (enterC [("word", .str ("TJ" : Str) tw), ("world", .ref wa), ("deeds", .ref dd), ("due", .ref du)] ["state", "operands", "pair", "right", "up", "six", "first", "second", "octets"] [("_law_number", .ref 813), ("_law_draw", .ref 806), ("Name", .ref 209), ("_law_row", .ref 867), ("range", .type "range"), ("_law_six", .ref 839), ("_law_parts", .ref 879), ("_law_octets", .ref 820), ("String", .ref 231), ("_law_show", .ref 860), ("Operation", .ref 407)] [("word", some (.str ("TJ" : Str) tw)), ("world", some (.ref wa)), ("deeds", some (.ref dd)), ("due", some (.ref du)), ("state", none), ("operands", none), ("pair", none), ("right", none), ("up", none), ("six", none), ("first", none), ("second", none), ("octets", none)] (fun L => [(L + 1, cel (some (.ref tp)))]) hR f (f.take t) (by unfold K; k_is) (by unfold K; k_is) (BindsTo.of_eq rfl) rfl rfl (fun L => rfl) (of_decide_eq_true rfl) rfl (by decide) (Ga.all (.cons (gv__law_number) (.cons (gv__law_draw) (.cons (gv_Name) (.cons (gv__law_row) (.cons (gv_range) (.cons (gv__law_six) (.cons (gv__law_parts) (.cons (gv__law_octets) (.cons (gv_String) (.cons (gv__law_show) (.cons (gv_Operation) .nil)))))))))))) rfl rfl rfl (by decide) (by decide) rfl ?_)
 intro env h1 tk1 L ok hcl f2 hR2
 simp only [List.cons_append, List.nil_append] at f2
 have hct := hcl "tape" (L + 1) (.head _)
 have ctp : Cl env "tape" (L + 1) := ⟨.inl hct.1.1, hct.1.2⟩
 k_extra "lp"
 k_extra "mkl"
 intro D3 F3 h3 f3 l3 e3
 k_extra "lp"
 k_extra "mkt"
 intro D4 F4 h4 f4 l4 e4
 k_extra "lp"
 k_extra "mkt"
 intro D5 F5 h5 f5 l5 e5
 k_extra "lp"
 k_extra "callk"
 k_extra "lp"
 k_extra "cLparts"
 case hl => exact l9.mono (by k_extra "le")
 case hp => exact lv.place.mono (by k_extra "le")
 case qs => exact qs
 case hcc => exact hcc
 case hN => k_extra "om"
 case hd => k_extra "om"
 intro DP us ps vp7 ds7 F7 h7 tk7 xx m eDP hus hok hpl hvp hrows
 rename Fm h F _ _ _ _ => fc
 have fR := fc.tkW m xx rfl (by k_extra "tk")
 clear fc
 have lx := xx.le
 k_extra "lp"
 k_extra "mkl"
 intro D8 F8 h8 f8 l8 e8
 k_extra "lp"
 k_extra "gmA"
 k_extra "lp"
 k_extra "callk"
 k_extra "lp"
 k_extra "mkOperation"
 intro ao dao F9 h9 tk9 eao edao f9 l9'
 k_extra "lp"
 k_extra "app"
 case hz => k_extra "om"
 k_extra "lp"
 rename Fm h F _ _ F9 _ => fe
 have fz := fe.lose (.tail .head) (fun _ _ _ e => e) hct.2.h0 hct.2.nw
 have fw := fz.weak (a := tp) (c := tapeC c (k + 5)) (c' := tapeC c (k + 6)) (.tail _ (.head _)) (.tail .head) (fun o => tape_weak (by k_extra "om"))
 have eo : F9 D8 = some (lst [.ref DP]) := by k_extra "fz"
 have ep : F9 DP = some (lst us) := by k_extra "fz"
 have es : (s.parts ps).st = s.st := parts_st s ps
 obtain ⟨rs, er, hrs, hrl⟩ := hrows
 refine ret (.TJ ps) l vr vp7 (.ref ao) ds7 F9 _ _ rfl fw.leave.1 (by show Mus F9 _ (lw5 prog w tp c (k + 6) wa sa pa dd du vr vp7 l (s.parts ps).st.font _ _); rw [es]; exact fw.leave.2) ⟨ao, dao, D8, tw, [.ref DP], rfl, eao, edao, eo, DP, us, rfl, ep, hus.mono fun v p => PartV.mono (l8.trans l9')⟩ ⟨htx, hset, hok, hpl⟩ ⟨?_, ?_, hvp.mono (l8.trans l9')⟩ ⟨rs, er, hrs.mono fun v r => RowV.mono (l8.trans l9'), hrl⟩
 ·show LsV F9 l (s.parts ps).st
  rw [es]; exact l9.mono fw.ext.le
 ·show LMat F9 vr (s.parts ps).row
  rw [parts_row]; exact lv.row.mono fw.ext.le
in #guard_msgs in open Nat
end
section
variable {A : Around} {h₀ h : Heap} {F₀ F : Fz} {W : List Addr} {mu mu' : Mu} {tk : Nat}
theorem c_lstep_Tm {tp c wa sa pa dd du : Addr} {k : Nat} {l : LS} {s : WS} {vr vp : Value} {dvs ds : List Value} {tw : Tok} {cc N : Nat} {Q : Value → Shared → Prop} (hR : Room 20 A) (f : Fm h₀ F₀ W mu F h)
  (t : Tk (lw5 prog w tp c k wa sa pa dd du vr vp l s.st.font dvs ds) (lw5 prog w tp c k wa sa pa dd du vr vp l s.st.font dvs ds) mu mu) (hc : TapeOk F c) (hk : k ≤ 1000) (lv : LwV F l vr vp s) (qs : WsQ cc N s) (hcc : cc ≤ 24) (hN : N ≤ 40000) (hd : dvs.length ≤ 800) (hdu : ds.length ≤ 700) (htx : s.text = true)
  (ret : LRet prog w tp c k wa sa pa dd du dvs ds F h g d os s "Tm" Q) : wpAny (model prog w) A (call (.ref 884) [.str "Tm" tw, .ref tp, .ref wa, .ref dd, .ref du]) Q E ⟨h, g, d, tk, os⟩ := by
 have l9 := lv.st
 refine r_use (enterC [("word", .str ("Tm" : Str) tw), ("world", .ref wa), ("deeds", .ref dd), ("due", .ref du)] ["state", "operands", "pair", "right", "up", "six", "first", "second", "octets"] [("_law_number", .ref 813), ("_law_draw", .ref 806), ("Name", .ref 209), ("_law_row", .ref 867), ("range", .type "range"), ("_law_six", .ref 839), ("_law_parts", .ref 879), ("_law_octets", .ref 820), ("String", .ref 231), ("_law_show", .ref 860), ("Operation", .ref 407)] [("word", some (.str ("Tm" : Str) tw)), ("world", some (.ref wa)), ("deeds", some (.ref dd)), ("due", some (.ref du)), ("state", none), ("operands", none), ("pair", none), ("right", none), ("up", none), ("six", none), ("first", none), ("second", none), ("octets", none)] (fun L => [(L + 1, cel (some (.ref tp)))]) hR f (f.take t) (by unfold K; k_is) (by unfold K; k_is) (BindsTo.of_eq rfl) rfl rfl (fun L => rfl) (of_decide_eq_true rfl) rfl (by decide) (Ga.all (.cons (gv__law_number) (.cons (gv__law_draw) (.cons (gv_Name) (.cons (gv__law_row) (.cons (gv_range) (.cons (gv__law_six) (.cons (gv__law_parts) (.cons (gv__law_octets) (.cons (gv_String) (.cons (gv__law_show) (.cons (gv_Operation) .nil)))))))))))) rfl rfl rfl (by decide) (by decide) rfl ?_)
 intro env h1 tk1 L ok hcl f2 hR2
 simp only [List.cons_append, List.nil_append] at f2
 have hct := hcl "tape" (L + 1) (.head _)
 have ctp : Cl env "tape" (L + 1) := ⟨.inl hct.1.1, hct.1.2⟩
 k_extra "lp"
 k_extra "mkl"
 intro D3 F3 h3 f3 l3 e3
 k_extra "lp"
 k_extra "mkt"
 intro D4 F4 h4 f4 l4 e4
 k_extra "lp"
 k_extra "mkt"
 intro D5 F5 h5 f5 l5 e5
 k_extra "lp"
 refine x_acomp (cl := [("tape", L + 1)]) ok (by assumption) ⟨_, .tail _ (.tail _ (.tail _ (.tail _ (.tail _ (.tail _ (.tail _ (.tail _ (.tail _ (.head _)))))))))⟩ rfl (by decide) (by simp [clos, ctp.lies]) rfl (by decide) (fun _ => rfl) ?_
 k_extra "callb"
 k_extra "sf"
 k_extra "rng"
 intro RA F1A h1A tk1A f1A l1A e1A
 refine iter_range (a := 0) (n := 6) f1A e1A (by decide) (by decide) fun I2 h8 f8 o8 => ?_
 refine comp_goA (fun i vs mu F' => JN (((L + 1, cel (some (.ref tp))) :: lw5 prog w tp c (k + i) wa sa pa dd du vr vp l s.st.font dvs ds) : Mu) i vs mu F') ok (Src.range (by k_extra "hd")) f8 o8 ⟨[], rfl, .nil, rfl⟩ (by decide) (by decide) rfl rfl ?_ ?_ (fun v => ⟨_, (.tail (.tail (.tail (.tail (.tail (.tail (.tail (.tail (.tail (.head))))))))))⟩)
 ·rintro C i v vs mu' F9 h9 tk9 hi ⟨tv, rfl⟩ hvl ⟨xs, rfl, hxs, hxl⟩ l9 cok D' f9
  have ok' := cok.ok [("_law_number", .ref 813)] ok rfl (by decide) (Ga.all (.cons (gv__law_number) .nil))
  have ctp' := cok.cl (x := "tape") (.inl rfl) rfl
  k_extra "sf"
  k_extra "callk"
  k_extra "sf"
  k_extra "cNumber"
  intro T v X tX y F10 h10 tk10 e10 nv sx qx f10 l10
  refine ⟨_, F10, _, _, rfl, f10, l9.trans l10, xs ++ [y], rfl, (hxs.mono fun v x => PairV.mono l10).app (.cons ⟨T, v, X, tX, rfl, e10, nv, sx, qx⟩ .nil), by simp [hxl]⟩
 rintro DA vsA mu' F2A F3A h3A tk3A hvlA ⟨xsA, rfl, hxsA, hxlA⟩ l2A l3A eDA ls' hs f3A
 obtain rfl := hs.det (.tail (.tail (.tail (.tail (.tail (.tail (.tail (.tail (.tail (.head)))))))))) (of_decide_eq_true rfl)
 clear hs
 obtain ⟨xa, xb, xc, xd, xe, xf, rfl⟩ := list_6 hxlA
 have hxsA := hxsA.mono fun v x => PairV.mono l3A
 refine x_acomp (cl := []) ok (by assumption) ⟨_, .tail _ (.tail _ (.tail _ (.tail _ (.tail _ (.head _)))))⟩ rfl (by decide) rfl rfl (by decide) (fun _ => rfl) ?_
 k_extra "sf"
 refine iter_list (by assumption) (by k_extra "at") fun I2 h8 f8 o8 => ?_
 refine comp_goAK (fun (i : Nat) (vs : List Value) (F' : Fz) => Al (NumV F') vs ([xa, xb, xc, xd, xe, xf].take i)) ok (Src.list (by k_extra "hd") (by k_extra "fz") (f8.mus.has (I2, _) (.tail _ (.head _))).2) f8 o8 .nil (by rw [hxsA.len]; exact Nat.le_of_ble_eq_true rfl) (by decide) rfl rfl ?_ ?_ (fun v => ⟨_, (.tail (.tail (.tail (.tail (.tail (.head))))))⟩)
 ·rintro C i v us F9 h9 tk9 hi hv hul hus l9 cok D' f9
  have ok' := cok.ok [] ok rfl (by decide) (Ga.all .nil)
  obtain ⟨y, hy, T, v', X, tX, rfl, eT, nv, sx, qx⟩ := hxsA.at hv
  k_extra "sf"
  refine ⟨F9, _, _, rfl, f9, l9, ?_⟩
  rw [List.take_add_one, hy]
  exact hus.app (.cons (nv.mono l9) .nil)
 rintro DnB usnB F2nB F3nB h3nB tk3nB hulnB husnB l2nB l3nB eDnB ls' hs f3nB
 obtain rfl := hs.det (.tail (.tail (.tail (.tail (.tail (.head)))))) (of_decide_eq_true rfl)
 clear hs
 have husnB := husnB.mono fun v x => NumV.mono l3nB
 rw [hxsA.len] at husnB
 simp only [List.length_cons, List.length_nil, List.take_succ_cons, List.take_nil, List.take_zero, Nat.zero_add, Nat.reduceAdd] at husnB
 k_extra "lp"
 k_extra "callk"
 k_extra "lp"
 refine r_comp (cl := []) rfl rfl (by decide) (fun _ => rfl) ?_
 k_extra "sf"
 refine iter_list (by assumption) (by k_extra "at") fun I2 h8 f8 o8 => ?_
 refine comp_goK (fun (i : Nat) (vs : List Value) (F' : Fz) => Al (ScV) vs ([xa, xb, xc, xd, xe, xf].take i)) (Src.list (by k_extra "hd") (by k_extra "fz") (f8.mus.has (I2, _) (.tail _ (.head _))).2) f8 o8 .nil (by rw [hxsA.len]; exact Nat.le_of_ble_eq_true rfl) (by decide) rfl rfl ?_ ?_
 ·rintro C i v us F9 h9 tk9 hi hv hul hus l9 cok D' f9
  have ok' := cok.ok [] ok rfl (by decide) (Ga.all .nil)
  obtain ⟨y, hy, T, v', X, tX, rfl, eT, nv, sx, qx⟩ := hxsA.at hv
  k_extra "sf"
  refine ⟨F9, _, _, rfl, f9, l9, ?_⟩
  rw [List.take_add_one, hy]
  exact hus.app (.cons ⟨X, tX, rfl, sx⟩ .nil)
 rintro DsC ussC F2sC F3sC h3sC tk3sC hulsC hussC l2sC l3sC eDsC f3sC
 have hussC := hussC
 rw [hxsA.len] at hussC
 simp only [List.length_cons, List.length_nil, List.take_succ_cons, List.take_nil, List.take_zero, Nat.zero_add, Nat.reduceAdd] at hussC
 obtain ⟨A6, B6, C6, D6, E6, G6, u0, u1, u2, u3, u4, u5, rfl, z0, z1, z2, z3, z4, z5⟩ := sc_of hussC
 k_extra "lp"
 k_extra "cSix"
 case h0 => exact (show Sc A6 (M6.mk xa xb xc xd xe xf).a from z0)
 case h1 => exact (show Sc B6 (M6.mk xa xb xc xd xe xf).b from z1)
 case h2 => exact (show Sc C6 (M6.mk xa xb xc xd xe xf).c from z2)
 case h3 => exact (show Sc D6 (M6.mk xa xb xc xd xe xf).d from z3)
 case h4 => exact (show Sc E6 (M6.mk xa xb xc xd xe xf).e from z4)
 case h5 => exact (show Sc G6 (M6.mk xa xb xc xd xe xf).f from z5)
 intro vm F20 h20 tk20 hvm f20 l20
 k_extra "lp"
 k_extra "setD"
 k_extra "lp"
 k_extra "setD"
 k_extra "lp"
 k_extra "gmA"
 k_extra "lp"
 k_extra "callk"
 k_extra "lp"
 k_extra "mkOperation"
 intro ao dao F21 h21 tk21 eao edao f21 l21
 k_extra "lp"
 k_extra "app"
 case hz => k_extra "om"
 k_extra "lp"
 rename Fm h F _ _ F21 _ => fe
 have fz := fe.lose (.tail .head) (fun _ _ _ e => e) hct.2.h0 hct.2.nw
 have fw := fz.weak (a := tp) (c := tapeC c (k + 6)) (c' := tapeC c (k + 6)) (.tail _ (.head _)) (.tail .head) (fun o => tape_weak (by k_extra "om"))
 have eo : F21 DnB = some (lst usnB) := by k_extra "fz"
 have sv : SixV F21 usnB ⟨xa, xb, xc, xd, xe, xf⟩ := SixV.mono (by k_extra "le") (six_of husnB)
 exact ret (.Tm ⟨xa, xb, xc, xd, xe, xf⟩) l vm vm (.ref ao) [] F21 _ _ rfl fw.leave.1 (by rw [List.append_nil]; exact fw.leave.2) ⟨ao, dao, DnB, tw, usnB, rfl, eao, edao, eo, sv⟩ ⟨htx, q6_of hxsA.q⟩ ⟨LsV.mono fw.ext.le l9, hvm.mono l21, hvm.mono l21⟩ (no_due rfl)
in #guard_msgs in open Nat
end
section
variable {A : Around} {h₀ h : Heap} {F₀ F : Fz} {W : List Addr} {mu mu' : Mu} {tk : Nat}
theorem c_lstep_Ts {tp c wa sa pa dd du : Addr} {k : Nat} {l : LS} {s : WS} {vr vp : Value} {dvs ds : List Value} {tw : Tok} {cc N : Nat} {Q : Value → Shared → Prop} (hR : Room 20 A) (f : Fm h₀ F₀ W mu F h)
  (t : Tk (lw5 prog w tp c k wa sa pa dd du vr vp l s.st.font dvs ds) (lw5 prog w tp c k wa sa pa dd du vr vp l s.st.font dvs ds) mu mu) (hc : TapeOk F c) (hk : k ≤ 1000) (lv : LwV F l vr vp s) (qs : WsQ cc N s) (hcc : cc ≤ 24) (hN : N ≤ 40000) (hd : dvs.length ≤ 800) (hdu : ds.length ≤ 700) (htx : s.text = true)
  (ret : LRet prog w tp c k wa sa pa dd du dvs ds F h g d os s "T*" Q) : wpAny (model prog w) A (call (.ref 884) [.str "T*" tw, .ref tp, .ref wa, .ref dd, .ref du]) Q E ⟨h, g, d, tk, os⟩ := by
 have l9 := lv.st
 refine r_use (enterC [("word", .str ("T*" : Str) tw), ("world", .ref wa), ("deeds", .ref dd), ("due", .ref du)] ["state", "operands", "pair", "right", "up", "six", "first", "second", "octets"] [("_law_number", .ref 813), ("_law_draw", .ref 806), ("Name", .ref 209), ("_law_row", .ref 867), ("range", .type "range"), ("_law_six", .ref 839), ("_law_parts", .ref 879), ("_law_octets", .ref 820), ("String", .ref 231), ("_law_show", .ref 860), ("Operation", .ref 407)] [("word", some (.str ("T*" : Str) tw)), ("world", some (.ref wa)), ("deeds", some (.ref dd)), ("due", some (.ref du)), ("state", none), ("operands", none), ("pair", none), ("right", none), ("up", none), ("six", none), ("first", none), ("second", none), ("octets", none)] (fun L => [(L + 1, cel (some (.ref tp)))]) hR f (f.take t) (by unfold K; k_is) (by unfold K; k_is) (BindsTo.of_eq rfl) rfl rfl (fun L => rfl) (of_decide_eq_true rfl) rfl (by decide) (Ga.all (.cons (gv__law_number) (.cons (gv__law_draw) (.cons (gv_Name) (.cons (gv__law_row) (.cons (gv_range) (.cons (gv__law_six) (.cons (gv__law_parts) (.cons (gv__law_octets) (.cons (gv_String) (.cons (gv__law_show) (.cons (gv_Operation) .nil)))))))))))) rfl rfl rfl (by decide) (by decide) rfl ?_)
 intro env h1 tk1 L ok hcl f2 hR2
 simp only [List.cons_append, List.nil_append] at f2
 have hct := hcl "tape" (L + 1) (.head _)
 have ctp : Cl env "tape" (L + 1) := ⟨.inl hct.1.1, hct.1.2⟩
 k_extra "lp"
 k_extra "mkl"
 intro D3 F3 h3 f3 l3 e3
 k_extra "lp"
 k_extra "mkt"
 intro D4 F4 h4 f4 l4 e4
 k_extra "lp"
 k_extra "mkt"
 intro D5 F5 h5 f5 l5 e5
 k_extra "lp"
 k_extra "callk"
 k_extra "lp"
 k_extra "cLrow2"
 case hr => exact lv.row.mono (by k_extra "le")
 case qr => exact qs.row
 case hx => exact .zero
 case hy => exact l9.TL.neg
 case qx => exact (Dq.zero (p := 1) (e := 10))
 case qy => exact qs.st.TL.neg
 case he => decide
 case hn => k_extra "om"
 intro vrow F10 h10 tk10 xx m hrow
 rename Fm h F _ _ _ _ => fc
 have fR := fc.tkW m xx rfl (by k_extra "tk")
 clear fc
 have lx := xx.le
 k_extra "lp"
 k_extra "gmA"
 k_extra "lp"
 k_extra "callk"
 k_extra "lp"
 k_extra "mkOperation"
 intro ao dao F11 h11 tk11 eao edao f11 l11
 k_extra "lp"
 k_extra "app"
 case hz => k_extra "om"
 k_extra "lp"
 rename Fm h F _ _ F11 _ => fe
 have fz := fe.lose (.tail .head) (fun _ _ _ e => e) hct.2.h0 hct.2.nw
 have fw := fz.weak (a := tp) (c := tapeC c (k)) (c' := tapeC c (k + 6)) (.tail _ (.head _)) (.tail .head) (fun o => tape_weak (by k_extra "om"))
 have eo : F11 D3 = some (lst []) := by k_extra "fz"
 exact ret .Tst l vrow vrow (.ref ao) [] F11 _ _ rfl fw.leave.1 (by rw [List.append_nil]; exact fw.leave.2) ⟨ao, dao, D3, tw, [], rfl, eao, edao, eo, rfl⟩ htx ⟨LsV.mono fw.ext.le l9, hrow.mono l11, hrow.mono l11⟩ (no_due rfl)
in #guard_msgs in open Nat
end
section
variable {A : Around} {h₀ h : Heap} {F₀ F : Fz} {W : List Addr} {mu mu' : Mu} {tk : Nat}
theorem c_lstep_Tj {tp c wa sa pa dd du : Addr} {k : Nat} {l : LS} {s : WS} {vr vp : Value} {dvs ds : List Value} {tw : Tok} {cc N : Nat} {Q : Value → Shared → Prop} (hR : Room 20 A) (f : Fm h₀ F₀ W mu F h)
  (t : Tk (lw5 prog w tp c k wa sa pa dd du vr vp l s.st.font dvs ds) (lw5 prog w tp c k wa sa pa dd du vr vp l s.st.font dvs ds) mu mu) (hc : TapeOk F c) (hk : k ≤ 1000) (lv : LwV F l vr vp s) (qs : WsQ cc N s) (hcc : cc ≤ 24) (hN : N ≤ 40000) (hd : dvs.length ≤ 800) (hdu : ds.length ≤ 700) (htx : s.text = true) (hset : s.st.set = true)
  (ret : LRet prog w tp c k wa sa pa dd du dvs ds F h g d os s "Tj" Q) : wpAny (model prog w) A (call (.ref 884) [.str "Tj" tw, .ref tp, .ref wa, .ref dd, .ref du]) Q E ⟨h, g, d, tk, os⟩ := by
 have l9 := lv.st
 have hpl := lv.place
 refine r_use (enterC [("word", .str ("Tj" : Str) tw), ("world", .ref wa), ("deeds", .ref dd), ("due", .ref du)] ["state", "operands", "pair", "right", "up", "six", "first", "second", "octets"] [("_law_number", .ref 813), ("_law_draw", .ref 806), ("Name", .ref 209), ("_law_row", .ref 867), ("range", .type "range"), ("_law_six", .ref 839), ("_law_parts", .ref 879), ("_law_octets", .ref 820), ("String", .ref 231), ("_law_show", .ref 860), ("Operation", .ref 407)] [("word", some (.str ("Tj" : Str) tw)), ("world", some (.ref wa)), ("deeds", some (.ref dd)), ("due", some (.ref du)), ("state", none), ("operands", none), ("pair", none), ("right", none), ("up", none), ("six", none), ("first", none), ("second", none), ("octets", none)] (fun L => [(L + 1, cel (some (.ref tp)))]) hR f (f.take t) (by unfold K; k_is) (by unfold K; k_is) (BindsTo.of_eq rfl) rfl rfl (fun L => rfl) (of_decide_eq_true rfl) rfl (by decide) (Ga.all (.cons (gv__law_number) (.cons (gv__law_draw) (.cons (gv_Name) (.cons (gv__law_row) (.cons (gv_range) (.cons (gv__law_six) (.cons (gv__law_parts) (.cons (gv__law_octets) (.cons (gv_String) (.cons (gv__law_show) (.cons (gv_Operation) .nil)))))))))))) rfl rfl rfl (by decide) (by decide) rfl ?_)
 intro env h1 tk1 L ok hcl f2 hR2
 simp only [List.cons_append, List.nil_append] at f2
 have hct := hcl "tape" (L + 1) (.head _)
 have ctp : Cl env "tape" (L + 1) := ⟨.inl hct.1.1, hct.1.2⟩
 k_extra "lp"
 k_extra "mkl"
 intro D3 F3 h3 f3 l3 e3
 k_extra "lp"
 k_extra "mkt"
 intro D4 F4 h4 f4 l4 e4
 k_extra "lp"
 k_extra "mkt"
 intro D5 F5 h5 f5 l5 e5
 k_extra "lp"
 k_extra "callk"
 k_extra "lp"
 k_extra "cOctets"
 intro bo tbo F10 h10 tk10 obo f10 l10
 k_extra "lp"
 k_extra "callk"
 k_extra "lp"
 k_extra "mkString"
 intro sao sda F11 h11 tk11 esa esda f11 l11
 k_extra "lp"
 k_extra "mkl"
 intro D12 F12 h12 f12 l12 e12
 k_extra "addL"
 case hz => exact Nat.le_of_ble_eq_true rfl
 intro D13 F13 h13 f13 l13 e13
 simp only [List.cons_append, List.nil_append] at e13
 k_extra "lp"
 k_extra "callk"
 k_extra "lp"
 have l9s : LsV F13 l s.st := l9.mono (by k_extra "le")
 k_extra "cLshowA"
 case hp => k_extra "LMat"
 case ob => exact obo
 case qs => exact qs.st
 case qp => exact qs.place
 case hc => exact hcc
 case hN => k_extra "om"
 case hd => k_extra "om"
 intro vsh dsh F14 h14 tk14 xxs ms hvsh hdsh
 rename Fm h F _ _ _ _ => fcs
 have fS := fcs.tkW ms xxs rfl (by k_extra "tk")
 clear fcs
 have lxs := xxs.le
 k_extra "lp"
 k_extra "gmA"
 k_extra "lp"
 k_extra "callk"
 k_extra "lp"
 k_extra "mkOperation"
 intro ao dao F15 h15 tk15 eao edao f15 l15
 k_extra "lp"
 k_extra "app"
 case hz => k_extra "om"
 k_extra "lp"
 rename Fm h F _ _ F15 _ => fe
 have fz := fe.lose (.tail .head) (fun _ _ _ e => e) hct.2.h0 hct.2.nw
 have fw := fz.weak (a := tp) (c := tapeC c (k + 1)) (c' := tapeC c (k + 6)) (.tail _ (.head _)) (.tail .head) (fun o => tape_weak (by k_extra "om"))
 have eo : F15 D13 = some (lst [.ref sao]) := by k_extra "fz"
 have es : StrV F15 (.ref sao) (codesOf bo) := ⟨sao, sda, bo, tbo, rfl, by k_extra "fz", by k_extra "fz", obo, rfl⟩
 exact ret (.Tj (codesOf bo)) l vr vsh (.ref ao) dsh F15 _ _ rfl fw.leave.1 fw.leave.2 ⟨ao, dao, D13, tw, [.ref sao], rfl, eao, edao, eo, .ref sao, rfl, es⟩ ⟨htx, hset, obo.okL⟩ ⟨LsV.mono fw.ext.le l9, lv.row.mono fw.ext.le, hvsh.mono l15⟩ ⟨_, rfl, hdsh.mono fun v r => RowV.mono l15, by have := obo.sz; rw [showR_len, codes_len]; k_extra "om"⟩
in #guard_msgs in open Nat
end
section
variable {A : Around} {h₀ h : Heap} {F₀ F : Fz} {W : List Addr} {mu mu' : Mu} {tk : Nat}
theorem c_lstep_q1 {tp c wa sa pa dd du : Addr} {k : Nat} {l : LS} {s : WS} {vr vp : Value} {dvs ds : List Value} {tw : Tok} {cc N : Nat} {Q : Value → Shared → Prop} (hR : Room 20 A) (f : Fm h₀ F₀ W mu F h)
  (t : Tk (lw5 prog w tp c k wa sa pa dd du vr vp l s.st.font dvs ds) (lw5 prog w tp c k wa sa pa dd du vr vp l s.st.font dvs ds) mu mu) (hc : TapeOk F c) (hk : k ≤ 1000) (lv : LwV F l vr vp s) (qs : WsQ cc N s) (hcc : cc ≤ 24) (hN : N ≤ 40000) (hd : dvs.length ≤ 800) (hdu : ds.length ≤ 700) (htx : s.text = true) (hset : s.st.set = true)
  (ret : LRet prog w tp c k wa sa pa dd du dvs ds F h g d os s "'" Q) : wpAny (model prog w) A (call (.ref 884) [.str "'" tw, .ref tp, .ref wa, .ref dd, .ref du]) Q E ⟨h, g, d, tk, os⟩ := by
 have l9 := lv.st
 have qf := qs.feed
 refine r_use (enterC [("word", .str ("'" : Str) tw), ("world", .ref wa), ("deeds", .ref dd), ("due", .ref du)] ["state", "operands", "pair", "right", "up", "six", "first", "second", "octets"] [("_law_number", .ref 813), ("_law_draw", .ref 806), ("Name", .ref 209), ("_law_row", .ref 867), ("range", .type "range"), ("_law_six", .ref 839), ("_law_parts", .ref 879), ("_law_octets", .ref 820), ("String", .ref 231), ("_law_show", .ref 860), ("Operation", .ref 407)] [("word", some (.str ("'" : Str) tw)), ("world", some (.ref wa)), ("deeds", some (.ref dd)), ("due", some (.ref du)), ("state", none), ("operands", none), ("pair", none), ("right", none), ("up", none), ("six", none), ("first", none), ("second", none), ("octets", none)] (fun L => [(L + 1, cel (some (.ref tp)))]) hR f (f.take t) (by unfold K; k_is) (by unfold K; k_is) (BindsTo.of_eq rfl) rfl rfl (fun L => rfl) (of_decide_eq_true rfl) rfl (by decide) (Ga.all (.cons (gv__law_number) (.cons (gv__law_draw) (.cons (gv_Name) (.cons (gv__law_row) (.cons (gv_range) (.cons (gv__law_six) (.cons (gv__law_parts) (.cons (gv__law_octets) (.cons (gv_String) (.cons (gv__law_show) (.cons (gv_Operation) .nil)))))))))))) rfl rfl rfl (by decide) (by decide) rfl ?_)
 intro env h1 tk1 L ok hcl f2 hR2
 simp only [List.cons_append, List.nil_append] at f2
 have hct := hcl "tape" (L + 1) (.head _)
 have ctp : Cl env "tape" (L + 1) := ⟨.inl hct.1.1, hct.1.2⟩
 k_extra "lp"
 k_extra "mkl"
 intro D3 F3 h3 f3 l3 e3
 k_extra "lp"
 k_extra "mkt"
 intro D4 F4 h4 f4 l4 e4
 k_extra "lp"
 k_extra "mkt"
 intro D5 F5 h5 f5 l5 e5
 k_extra "lp"
 k_extra "callk"
 k_extra "lp"
 k_extra "cLrow2"
 case hr => exact lv.row.mono (by k_extra "le")
 case qr => exact qs.row
 case hx => exact .zero
 case hy => exact l9.TL.neg
 case qx => exact (Dq.zero (p := 1) (e := 10))
 case qy => exact qs.st.TL.neg
 case he => decide
 case hn => k_extra "om"
 intro vrow F10 h10 tk10 xx m hrow
 rename Fm h F _ _ _ _ => fc
 have fR := fc.tkW m xx rfl (by k_extra "tk")
 clear fc
 have lx := xx.le
 k_extra "lp"
 k_extra "callk"
 k_extra "lp"
 k_extra "cOctets"
 intro bo tbo F11 h11 tk11 obo f11 l11
 k_extra "lp"
 k_extra "callk"
 k_extra "lp"
 k_extra "mkString"
 intro sao sda F12 h12 tk12 esa esda f12 l12
 k_extra "lp"
 k_extra "mkl"
 intro D13 F13 h13 f13 l13 e13
 k_extra "addL"
 case hz => exact Nat.le_of_ble_eq_true rfl
 intro D14 F14 h14 f14 l14 e14
 simp only [List.cons_append, List.nil_append] at e14
 k_extra "lp"
 k_extra "callk"
 k_extra "lp"
 have l9s : LsV F14 l s.st := l9.mono (by k_extra "le")
 k_extra "cLshowA"
 case hp => k_extra "LMat"
 case ob => exact obo
 case qs => exact qf.st
 case qp => exact qf.place
 case hc => exact hcc
 case hN => k_extra "om"
 case hd => k_extra "om"
 intro vsh dsh F15 h15 tk15 xxs ms hvsh hdsh
 rename Fm h F _ _ _ _ => fcs
 have fS := fcs.tkW ms xxs rfl (by k_extra "tk")
 clear fcs
 have lxs := xxs.le
 k_extra "lp"
 k_extra "gmA"
 k_extra "lp"
 k_extra "callk"
 k_extra "lp"
 k_extra "mkOperation"
 intro ao dao F16 h16 tk16 eao edao f16 l16
 k_extra "lp"
 k_extra "app"
 case hz => k_extra "om"
 k_extra "lp"
 rename Fm h F _ _ F16 _ => fe
 have fz := fe.lose (.tail .head) (fun _ _ _ e => e) hct.2.h0 hct.2.nw
 have fw := fz.weak (a := tp) (c := tapeC c (k + 1)) (c' := tapeC c (k + 6)) (.tail _ (.head _)) (.tail .head) (fun o => tape_weak (by k_extra "om"))
 have eo : F16 D14 = some (lst [.ref sao]) := by k_extra "fz"
 have es : StrV F16 (.ref sao) (codesOf bo) := ⟨sao, sda, bo, tbo, rfl, by k_extra "fz", by k_extra "fz", obo, rfl⟩
 have hr2 : LMat F16 vrow ((M6.shift 0 (-s.st.TL)).mul s.row) := by k_extra "LMat"
 exact ret (.q1 (codesOf bo)) l vrow vsh (.ref ao) dsh F16 _ _ rfl fw.leave.1 fw.leave.2 ⟨ao, dao, D14, tw, [.ref sao], rfl, eao, edao, eo, .ref sao, rfl, es⟩ ⟨htx, hset, obo.okL⟩ ⟨LsV.mono fw.ext.le l9, hr2, hvsh.mono l16⟩ ⟨_, rfl, hdsh.mono fun v r => RowV.mono l16, by have := obo.sz; rw [showR_len, codes_len]; k_extra "om"⟩
in #guard_msgs in open Nat
end
section
variable {A : Around} {h₀ h : Heap} {F₀ F : Fz} {W : List Addr} {mu mu' : Mu} {tk : Nat}
theorem c_lstep_q2 {tp c wa sa pa dd du : Addr} {k : Nat} {l : LS} {s : WS} {vr vp : Value} {dvs ds : List Value} {tw : Tok} {cc N : Nat} {Q : Value → Shared → Prop} (hR : Room 20 A) (f : Fm h₀ F₀ W mu F h)
  (t : Tk (lw5 prog w tp c k wa sa pa dd du vr vp l s.st.font dvs ds) (lw5 prog w tp c k wa sa pa dd du vr vp l s.st.font dvs ds) mu mu) (hc : TapeOk F c) (hk : k ≤ 1000) (lv : LwV F l vr vp s) (qs : WsQ cc N s) (hcc : cc ≤ 24) (hN : N ≤ 40000) (hd : dvs.length ≤ 800) (hdu : ds.length ≤ 700) (htx : s.text = true) (hset : s.st.set = true)
  (ret : LRet prog w tp c k wa sa pa dd du dvs ds F h g d os s "\"" Q) : wpAny (model prog w) A (call (.ref 884) [.str "\"" tw, .ref tp, .ref wa, .ref dd, .ref du]) Q E ⟨h, g, d, tk, os⟩ := by
 have l9 := lv.st
 refine r_use (enterC [("word", .str ("\"" : Str) tw), ("world", .ref wa), ("deeds", .ref dd), ("due", .ref du)] ["state", "operands", "pair", "right", "up", "six", "first", "second", "octets"] [("_law_number", .ref 813), ("_law_draw", .ref 806), ("Name", .ref 209), ("_law_row", .ref 867), ("range", .type "range"), ("_law_six", .ref 839), ("_law_parts", .ref 879), ("_law_octets", .ref 820), ("String", .ref 231), ("_law_show", .ref 860), ("Operation", .ref 407)] [("word", some (.str ("\"" : Str) tw)), ("world", some (.ref wa)), ("deeds", some (.ref dd)), ("due", some (.ref du)), ("state", none), ("operands", none), ("pair", none), ("right", none), ("up", none), ("six", none), ("first", none), ("second", none), ("octets", none)] (fun L => [(L + 1, cel (some (.ref tp)))]) hR f (f.take t) (by unfold K; k_is) (by unfold K; k_is) (BindsTo.of_eq rfl) rfl rfl (fun L => rfl) (of_decide_eq_true rfl) rfl (by decide) (Ga.all (.cons (gv__law_number) (.cons (gv__law_draw) (.cons (gv_Name) (.cons (gv__law_row) (.cons (gv_range) (.cons (gv__law_six) (.cons (gv__law_parts) (.cons (gv__law_octets) (.cons (gv_String) (.cons (gv__law_show) (.cons (gv_Operation) .nil)))))))))))) rfl rfl rfl (by decide) (by decide) rfl ?_)
 intro env h1 tk1 L ok hcl f2 hR2
 simp only [List.cons_append, List.nil_append] at f2
 have hct := hcl "tape" (L + 1) (.head _)
 have ctp : Cl env "tape" (L + 1) := ⟨.inl hct.1.1, hct.1.2⟩
 k_extra "lp"
 k_extra "mkl"
 intro D3 F3 h3 f3 l3 e3
 k_extra "lp"
 k_extra "mkt"
 intro D4 F4 h4 f4 l4 e4
 k_extra "lp"
 k_extra "mkt"
 intro D5 F5 h5 f5 l5 e5
 k_extra "lp"
 k_extra "callk"
 k_extra "lp"
 k_extra "cNumber"
 intro Ta va Xa tXa ya F10 h10 tk10 e10 nva sxa qxa f10 l10
 k_extra "lp"
 k_extra "callk"
 k_extra "lp"
 k_extra "cNumber"
 intro Tb vb Xb tXb yb F11 h11 tk11 e11 nvb sxb qxb f11 l11
 k_extra "lp"
 k_extra "mkl"
 intro D12 F12 h12 f12 l12 e12
 k_extra "lp"
 k_extra "setD"
 k_extra "lp"
 k_extra "setD"
 k_extra "lp"
 have s1 := qs.st
 have qs' : WsQ cc N { s with st := { s.st with Tw := ya, Tc := yb } } := ⟨⟨s1.ctm, s1.size, qxb, qxa, s1.Tz, s1.TL, s1.Ts⟩, qs.pile, qs.row, qs.place, qs.rows⟩
 have qf := qs'.feed
 have l9' : LsV F { l with D := Xa, tD := tXa, C := Xb, tC := tXb } { s.st with Tw := ya, Tc := yb } := ⟨l9.ctm, l9.size, sxb, sxa, l9.Tz, l9.TL, l9.Ts⟩
 k_extra "callk"
 k_extra "lp"
 k_extra "cLrow2"
 case hr => exact lv.row.mono (by k_extra "le")
 case qr => exact qs.row
 case hx => exact .zero
 case hy => exact l9.TL.neg
 case qx => exact (Dq.zero (p := 1) (e := 10))
 case qy => exact qs.st.TL.neg
 case he => decide
 case hn => k_extra "om"
 intro vrow F13 h13 tk13 xx m hrow
 rename Fm h F _ _ _ _ => fc
 have fR := fc.tkW m xx rfl (by k_extra "tk")
 clear fc
 have lx := xx.le
 k_extra "lp"
 k_extra "callk"
 k_extra "lp"
 k_extra "cOctets"
 intro bo tbo F14 h14 tk14 obo f14 l14
 k_extra "lp"
 k_extra "callk"
 k_extra "lp"
 k_extra "mkString"
 intro sao sda F15 h15 tk15 esa esda f15 l15
 k_extra "lp"
 k_extra "mkl"
 intro D16 F16 h16 f16 l16 e16
 k_extra "addL"
 case hz => exact Nat.le_of_ble_eq_true rfl
 intro D17 F17 h17 f17 l17 e17
 simp only [List.cons_append, List.nil_append] at e17
 k_extra "lp"
 k_extra "callk"
 k_extra "lp"
 have l9s : LsV F17 { l with D := Xa, tD := tXa, C := Xb, tC := tXb } { s.st with Tw := ya, Tc := yb } := l9'.mono (by k_extra "le")
 k_extra "cLshowA"
 case hp => k_extra "LMat"
 case ob => exact obo
 case qs => exact qf.st
 case qp => exact qf.place
 case hc => exact hcc
 case hN => k_extra "om"
 case hd => k_extra "om"
 intro vsh dsh F18 h18 tk18 xxs ms hvsh hdsh
 rename Fm h F _ _ _ _ => fcs
 have fS := fcs.tkW ms xxs rfl (by k_extra "tk")
 clear fcs
 have lxs := xxs.le
 k_extra "lp"
 k_extra "gmA"
 k_extra "lp"
 k_extra "callk"
 k_extra "lp"
 k_extra "mkOperation"
 intro ao dao F19 h19 tk19 eao edao f19 l19
 k_extra "lp"
 k_extra "app"
 case hz => k_extra "om"
 k_extra "lp"
 rename Fm h F _ _ F19 _ => fe
 have fz := fe.lose (.tail .head) (fun _ _ _ e => e) hct.2.h0 hct.2.nw
 have fw := fz.weak (a := tp) (c := tapeC c (k + 2 + 1)) (c' := tapeC c (k + 6)) (.tail _ (.head _)) (.tail .head) (fun o => tape_weak (by k_extra "om"))
 have eo : F19 D17 = some (lst [va, vb, .ref sao]) := by k_extra "fz"
 have na : NumV F19 va ya := by k_extra "num"
 have nb : NumV F19 vb yb := by k_extra "num"
 have es : StrV F19 (.ref sao) (codesOf bo) := ⟨sao, sda, bo, tbo, rfl, by k_extra "fz", by k_extra "fz", obo, rfl⟩
 have hr2 : LMat F19 vrow ((M6.shift 0 (-s.st.TL)).mul s.row) := by k_extra "LMat"
 exact ret (.q2 ya yb (codesOf bo)) { l with D := Xa, tD := tXa, C := Xb, tC := tXb } vrow vsh (.ref ao) dsh F19 _ _ rfl fw.leave.1 fw.leave.2 ⟨ao, dao, D17, tw, [va, vb, .ref sao], rfl, eao, edao, eo, va, vb, .ref sao, rfl, na, nb, es⟩ ⟨htx, hset, qxa, qxb, obo.okL⟩ ⟨LsV.mono fw.ext.le l9', hr2, hvsh.mono l19⟩ ⟨_, rfl, hdsh.mono fun v r => RowV.mono l19, by have := obo.sz; rw [showR_len, codes_len]; k_extra "om"⟩
in #guard_msgs in open Nat
end
section
variable {A : Around} {h₀ h : Heap} {F₀ F : Fz} {W : List Addr} {mu : Mu} {tk : Nat}
theorem r_neqL0 {n : Nat} {l b : Addr} {Q : Value → Shared → Prop} (hR : Room (n + 1) A) (f : Fm h₀ F₀ W mu F h) (hl : At mu F l (lst [])) (hb : At mu F b (lst [])) (q : Q (.bool false) ⟨h, g, d, tk, os⟩) :
  wpAny (model prog w) A (compareOp .NotEq (.ref l) (.ref b)) Q E ⟨h, g, d, tk, os⟩ :=
 cmp_ofNotEq (SeqAt.RcNeAt.lists (e := fun _ => true) (lst_list (hl.has f)) (lst_list (hb.has f)) rfl hR.un (fun j j1 _ => by simp at j1) _ _ _ _ (by simpa using q))
in #guard_msgs in open Nat
theorem r_neqL1 {n : Nat} {l b : Addr} {vs : List Value} {Q : Value → Shared → Prop} (hR : Room (n + 1) A) (f : Fm h₀ F₀ W mu F h) (hl : At mu F l (lst vs)) (hb : At mu F b (lst [])) (hn : vs ≠ []) (q : Q (.bool true) ⟨h, g, d, tk, os⟩) :
  wpAny (model prog w) A (compareOp .NotEq (.ref l) (.ref b)) Q E ⟨h, g, d, tk, os⟩ :=
 cmp_ofNotEq (SeqAt.RcNeAt.lists_lengths (lst_list (hl.has f)) (lst_list (hb.has f)) (by simpa using hn) hR.un _ _ _ _ q)
in #guard_msgs in open Nat
end
section
variable {A : Around} {h₀ h : Heap} {F₀ F : Fz} {W : List Addr} {mu mu' : Mu} {tk : Nat}
theorem c_lout_cm {tp c wa sa pa dd : Addr} {k : Nat} {l : LS} {b : Bool} {ctm : M6} {vr vp : Value} {dvs : List Value} {tw : Tok} {cc N : Nat} {Q : Value → Shared → Prop} (hR : Room 20 A) (f : Fm h₀ F₀ W mu F h)
  (t : Tk [(tp, tapeC c k), (wa, dic (strKind prog w) (wkvs sa pa vr vp)), (sa, dic (strKind prog w) (l.kvs b)), (dd, lst dvs)] [(tp, tapeC c k), (wa, dic (strKind prog w) (wkvs sa pa vr vp)), (sa, dic (strKind prog w) (l.kvs b)), (dd, lst dvs)] mu mu) (hc : TapeOk F c) (hk : k ≤ 1000) (hm : LMat F l.vm ctm) (qm : Mq cc (cc + 1) N ctm) (hcc : cc ≤ 24) (hN : N ≤ 40000) (hd : dvs.length ≤ 800)
  (ret : ∀ m vm vr' vp' o1 o2 o3 F' h' tk', Ext F h [tp, wa, sa, dd] F' h' → Mus F' h' [(tp, tapeC c (k + 6)), (wa, dic (strKind prog w) (wkvs sa pa vr' vp')), (sa, dic (strKind prog w) (({ l with vm := vm } : LS).kvs b)), (dd, lst (dvs ++ [o1, o2, o3]))] →
   OpV F' o1 .ET → OpV F' o2 (.cm m) → OpV F' o3 .BT → Mq 1 1 10 m → LMat F' vm (m.mul ctm) → LMat F' vr' .one → LMat F' vp' .one → Q .none ⟨h', g, d, tk', os⟩) :
  wpAny (model prog w) A (call (.ref 872) [.str "cm" tw, .ref tp, .ref wa, .ref dd]) Q E ⟨h, g, d, tk, os⟩ := by
 refine r_use (enterC [("word", .str ("cm" : Str) tw), ("world", .ref wa), ("deeds", .ref dd)] ["state", "six"] [("Operation", .ref 407), ("range", .type "range"), ("_law_product", .ref 825), ("_law_six", .ref 839), ("dict", .type "dict"), ("_law_shift", .ref 832)] [("word", some (.str ("cm" : Str) tw)), ("world", some (.ref wa)), ("deeds", some (.ref dd)), ("state", none), ("six", none)] (fun L => [(L + 1, cel (some (.ref tp)))]) hR f (f.take t) (by unfold K; k_is) (by unfold K; k_is) (BindsTo.of_eq rfl) rfl rfl (fun L => rfl) (of_decide_eq_true rfl) rfl (by decide) (Ga.all (.cons (gv_Operation) (.cons (gv_range) (.cons (gv__law_product) (.cons (gv__law_six) (.cons (gv_dict) (.cons (gv__law_shift) .nil))))))) rfl rfl rfl (by decide) (by decide) rfl ?_)
 intro env h1 tk1 L ok hcl f2 hR2
 simp only [List.cons_append, List.nil_append] at f2
 have hct := hcl "tape" (L + 1) (.head _)
 have ctp : Cl env "tape" (L + 1) := ⟨.inl hct.1.1, hct.1.2⟩
 k_extra "lp"
 k_extra "gmA"
 k_extra "lp"
 k_extra "callk"
 k_extra "lp"
 k_extra "mkl"
 intro DL1 FL1 hL1 fL1 lL1 eL1
 k_extra "lp"
 k_extra "mkOperation"
 intro ao1 da1 FO1 hO1 tkO1 eo1 ed1 fO1 lO1
 k_extra "lp"
 k_extra "app"
 case hz => first | k_extra "om" | (simp only [List.length_append, List.length_singleton]; k_extra "om")
 k_extra "lp"
 refine x_acomp (cl := [("tape", L + 1)]) ok (by assumption) ⟨_, .tail _ (.tail _ (.tail _ (.tail _ (.head _))))⟩ rfl (by decide) (by simp [clos, ctp.lies]) rfl (by decide) (fun _ => rfl) ?_
 k_extra "callb"
 k_extra "sf"
 k_extra "rng"
 intro RA F1A h1A tk1A f1A l1A e1A
 refine iter_range (a := 0) (n := 6) f1A e1A (by decide) (by decide) fun I2 h8 f8 o8 => ?_
 refine comp_goA (fun i vs mu F' => JN (((L + 1, cel (some (.ref tp))) :: (tp, tapeC c (k + i)) :: (wa, dic (strKind prog w) (wkvs sa pa vr vp)) :: (sa, dic (strKind prog w) (l.kvs b)) :: (dd, lst (dvs ++ [.ref ao1])) :: []) : Mu) i vs mu F') ok (Src.range (by k_extra "hd")) f8 o8 ⟨[], rfl, .nil, rfl⟩ (by decide) (by decide) rfl rfl ?_ ?_ (fun v => ⟨_, (.tail (.tail (.tail (.tail (.head)))))⟩)
 ·rintro C i v vs mu' F9 h9 tk9 hi ⟨tv, rfl⟩ hvl ⟨xs, rfl, hxs, hxl⟩ l9 cok D' f9
  have ok' := cok.ok [("_law_number", .ref 813)] ok rfl (by decide) (Ga.all (.cons (gv__law_number) .nil))
  have ctp' := cok.cl (x := "tape") (.inl rfl) rfl
  k_extra "sf"
  k_extra "callk"
  k_extra "sf"
  k_extra "cNumber"
  intro T v X tX y F10 h10 tk10 e10 nv sx qx f10 l10
  refine ⟨_, F10, _, _, rfl, f10, l9.trans l10, xs ++ [y], rfl, (hxs.mono fun v x => PairV.mono l10).app (.cons ⟨T, v, X, tX, rfl, e10, nv, sx, qx⟩ .nil), by simp [hxl]⟩
 rintro DA vsA mu' F2A F3A h3A tk3A hvlA ⟨xsA, rfl, hxsA, hxlA⟩ l2A l3A eDA ls' hs f3A
 obtain rfl := hs.det (.tail (.tail (.tail (.tail (.head))))) (of_decide_eq_true rfl)
 clear hs
 obtain ⟨xa, xb, xc, xd, xe, xf, rfl⟩ := list_6 hxlA
 have hxsA := hxsA.mono fun v x => PairV.mono l3A
 k_extra "lp"
 k_extra "gmA"
 k_extra "lp"
 k_extra "callk"
 k_extra "lp"
 refine r_comp (cl := []) rfl rfl (by decide) (fun _ => rfl) ?_
 k_extra "sf"
 refine iter_list (by assumption) (by k_extra "at") fun I2 h8 f8 o8 => ?_
 refine comp_goK (fun (i : Nat) (vs : List Value) (F' : Fz) => Al (NumV F') vs ([xa, xb, xc, xd, xe, xf].take i)) (Src.list (by k_extra "hd") (by k_extra "fz") (f8.mus.has (I2, _) (.tail _ (.head _))).2) f8 o8 .nil (by rw [hxsA.len]; exact Nat.le_of_ble_eq_true rfl) (by decide) rfl rfl ?_ ?_
 ·rintro C i v us F9 h9 tk9 hi hv hul hus l9 cok D' f9
  have ok' := cok.ok [] ok rfl (by decide) (Ga.all .nil)
  obtain ⟨y, hy, T, v', X, tX, rfl, eT, nv, sx, qx⟩ := hxsA.at hv
  k_extra "sf"
  refine ⟨F9, _, _, rfl, f9, l9, ?_⟩
  rw [List.take_add_one, hy]
  exact hus.app (.cons (nv.mono l9) .nil)
 rintro DnB usnB F2nB F3nB h3nB tk3nB hulnB husnB l2nB l3nB eDnB f3nB
 have husnB := husnB.mono fun v x => NumV.mono l3nB
 rw [hxsA.len] at husnB
 simp only [List.length_cons, List.length_nil, List.take_succ_cons, List.take_nil, List.take_zero, Nat.zero_add, Nat.reduceAdd] at husnB
 k_extra "lp"
 k_extra "mkOperation"
 intro ao2 da2 FO2 hO2 tkO2 eo2 ed2 fO2 lO2
 k_extra "lp"
 k_extra "app"
 case hz => first | k_extra "om" | (simp only [List.length_append, List.length_singleton]; k_extra "om")
 k_extra "lp"
 k_extra "callk"
 k_extra "lp"
 k_extra "callk"
 k_extra "lp"
 refine r_comp (cl := []) rfl rfl (by decide) (fun _ => rfl) ?_
 k_extra "sf"
 refine iter_list (by assumption) (by k_extra "at") fun I2 h8 f8 o8 => ?_
 refine comp_goK (fun (i : Nat) (vs : List Value) (F' : Fz) => Al (ScV) vs ([xa, xb, xc, xd, xe, xf].take i)) (Src.list (by k_extra "hd") (by k_extra "fz") (f8.mus.has (I2, _) (.tail _ (.head _))).2) f8 o8 .nil (by rw [hxsA.len]; exact Nat.le_of_ble_eq_true rfl) (by decide) rfl rfl ?_ ?_
 ·rintro C i v us F9 h9 tk9 hi hv hul hus l9 cok D' f9
  have ok' := cok.ok [] ok rfl (by decide) (Ga.all .nil)
  obtain ⟨y, hy, T, v', X, tX, rfl, eT, nv, sx, qx⟩ := hxsA.at hv
  k_extra "sf"
  refine ⟨F9, _, _, rfl, f9, l9, ?_⟩
  rw [List.take_add_one, hy]
  exact hus.app (.cons ⟨X, tX, rfl, sx⟩ .nil)
 rintro DsC ussC F2sC F3sC h3sC tk3sC hulsC hussC l2sC l3sC eDsC f3sC
 have hussC := hussC
 rw [hxsA.len] at hussC
 simp only [List.length_cons, List.length_nil, List.take_succ_cons, List.take_nil, List.take_zero, Nat.zero_add, Nat.reduceAdd] at hussC
 obtain ⟨A6, B6, C6, D6, E6, G6, u0, u1, u2, u3, u4, u5, rfl, z0, z1, z2, z3, z4, z5⟩ := sc_of hussC
 k_extra "lp"
 k_extra "cSix"
 case h0 => exact (show Sc A6 (M6.mk xa xb xc xd xe xf).a from z0)
 case h1 => exact (show Sc B6 (M6.mk xa xb xc xd xe xf).b from z1)
 case h2 => exact (show Sc C6 (M6.mk xa xb xc xd xe xf).c from z2)
 case h3 => exact (show Sc D6 (M6.mk xa xb xc xd xe xf).d from z3)
 case h4 => exact (show Sc E6 (M6.mk xa xb xc xd xe xf).e from z4)
 case h5 => exact (show Sc G6 (M6.mk xa xb xc xd xe xf).f from z5)
 intro vm0 F20 h20 tk20 hvm0 f20 l20
 have q6 := q6_of hxsA.q
 have hm20 : LMat F20 l.vm ctm := by k_extra "LMat"
 k_extra "lp"
 k_extra "cProd"
 case a => exact q6
 case b => exact qm
 case h1 => k_extra "om"
 case h2 => k_extra "om"
 case h3 => k_extra "om"
 case hn => k_extra "om"
 intro vm F21 h21 tk21 hvm f21 l21
 k_extra "lp"
 k_extra "setD"
 k_extra "lp"
 k_extra "gmA"
 k_extra "lp"
 k_extra "callk"
 k_extra "lp"
 k_extra "mkl"
 intro DL3 FL3 hL3 fL3 lL3 eL3
 k_extra "lp"
 k_extra "mkOperation"
 intro ao3 da3 FO3 hO3 tkO3 eo3 ed3 fO3 lO3
 k_extra "lp"
 k_extra "app"
 case hz => first | k_extra "om" | (simp only [List.length_append, List.length_singleton]; k_extra "om")
 k_extra "lp"
 k_extra "callk"
 k_extra "lp"
 k_extra "cShift"
 case hx => exact .zero
 case hy => exact .zero
 intro vr9 FA hA tkA hvr fA lA
 k_extra "lp"
 k_extra "setD"
 k_extra "lp"
 k_extra "callk"
 k_extra "lp"
 k_extra "cShift"
 case hx => exact .zero
 case hy => exact .zero
 intro vp9 FB hB tkB hvp fB lB
 k_extra "lp"
 k_extra "setD"
 k_extra "lp"
 rename Fm h F _ _ FB _ => fe
 have fz := fe.lose (.tail .head) (fun _ _ _ e => e) hct.2.h0 hct.2.nw
 simp only [List.append_assoc, List.cons_append, List.nil_append] at fz
 have k1 : OpV FB (.ref ao1) .ET := ⟨ao1, da1, DL1, _, [], rfl, Le.at (by k_extra "le") eo1, Le.at (by k_extra "le") ed1, Le.at (by k_extra "le") eL1, rfl⟩
 have k3 : OpV FB (.ref ao3) .BT := ⟨ao3, da3, DL3, _, [], rfl, Le.at (by k_extra "le") eo3, Le.at (by k_extra "le") ed3, Le.at (by k_extra "le") eL3, rfl⟩
 have sv : SixV FB usnB ⟨xa, xb, xc, xd, xe, xf⟩ := SixV.mono (by k_extra "le") (six_of husnB)
 have k2 : OpV FB (.ref ao2) (.cm ⟨xa, xb, xc, xd, xe, xf⟩) := ⟨ao2, da2, DnB, _, usnB, rfl, Le.at (by k_extra "le") eo2, Le.at (by k_extra "le") ed2, Le.at (by k_extra "le") eDnB, sv⟩
 have hvm' : LMat FB vm ((⟨xa, xb, xc, xd, xe, xf⟩ : M6).mul ctm) := by k_extra "LMat"
 exact ret ⟨xa, xb, xc, xd, xe, xf⟩ vm vr9 vp9 _ _ _ FB _ _ fz.ext fz.mus.tail k1 k2 k3 q6 hvm' (hvr.mono lB) hvp
in #guard_msgs in open Nat
theorem c_lout_Q {tp wa sa pa dd ya : Addr} {vr vp : Value} {dvs ss : List Value} {tw : Tok} {Q : Value → Shared → Prop} (hR : Room 20 A) (f : Fm h₀ F₀ W mu F h)
  (t : Tk [(wa, dic (strKind prog w) (wkvs sa pa vr vp)), (pa, lst (ss ++ [.ref ya])), (dd, lst dvs)] [(wa, dic (strKind prog w) (wkvs sa pa vr vp)), (pa, lst (ss ++ [.ref ya])), (dd, lst dvs)] mu mu) (hd : dvs.length ≤ 800) (hs : ss.length ≤ 800)
  (ret : ∀ vr' vp' o1 o2 o3 F' h' tk', Ext F h [wa, pa, dd] F' h' → Mus F' h' [(wa, dic (strKind prog w) (wkvs ya pa vr' vp')), (pa, lst ss), (dd, lst (dvs ++ [o1, o2, o3]))] →
   OpV F' o1 .ET → OpV F' o2 .Q → OpV F' o3 .BT → LMat F' vr' .one → LMat F' vp' .one → Q .none ⟨h', g, d, tk', os⟩) :
  wpAny (model prog w) A (call (.ref 872) [.str "Q" tw, .ref tp, .ref wa, .ref dd]) Q E ⟨h, g, d, tk, os⟩ := by
 refine r_use (enterC [("word", .str ("Q" : Str) tw), ("world", .ref wa), ("deeds", .ref dd)] ["state", "six"] [("Operation", .ref 407), ("range", .type "range"), ("_law_product", .ref 825), ("_law_six", .ref 839), ("dict", .type "dict"), ("_law_shift", .ref 832)] [("word", some (.str ("Q" : Str) tw)), ("world", some (.ref wa)), ("deeds", some (.ref dd)), ("state", none), ("six", none)] (fun L => [(L + 1, cel (some (.ref tp)))]) hR f (f.take t) (by unfold K; k_is) (by unfold K; k_is) (BindsTo.of_eq rfl) rfl rfl (fun L => rfl) (of_decide_eq_true rfl) rfl (by decide) (Ga.all (.cons (gv_Operation) (.cons (gv_range) (.cons (gv__law_product) (.cons (gv__law_six) (.cons (gv_dict) (.cons (gv__law_shift) .nil))))))) rfl rfl rfl (by decide) (by decide) rfl ?_)
 intro env h1 tk1 L ok hcl f2 hR2
 simp only [List.cons_append, List.nil_append] at f2
 have hct := hcl "tape" (L + 1) (.head _)
 have ctp : Cl env "tape" (L + 1) := ⟨.inl hct.1.1, hct.1.2⟩
 k_extra "lp"
 k_extra "gmA"
 k_extra "lp"
 k_extra "callk"
 k_extra "lp"
 k_extra "mkl"
 intro DL1 FL1 hL1 fL1 lL1 eL1
 k_extra "lp"
 k_extra "mkOperation"
 intro ao1 da1 FO1 hO1 tkO1 eo1 ed1 fO1 lO1
 k_extra "lp"
 k_extra "app"
 case hz => first | k_extra "om" | (simp only [List.length_append, List.length_singleton]; k_extra "om")
 k_extra "lp"
 k_extra "mkl"
 intro DE FE hE fE lE eE
 refine r_neqL1 hR2 fE (.m (by k_extra "mem")) (.f eE) (by simp) ?_
 k_extra "lp"
 k_extra "gmA"
 k_extra "lp"
 k_extra "callk"
 k_extra "lp"
 k_extra "mkl"
 intro DL2 FL2 hL2 fL2 lL2 eL2
 k_extra "lp"
 k_extra "mkOperation"
 intro ao2 da2 FO2 hO2 tkO2 eo2 ed2 fO2 lO2
 k_extra "lp"
 k_extra "app"
 case hz => first | k_extra "om" | (simp only [List.length_append, List.length_singleton]; k_extra "om")
 k_extra "lp"
 k_extra "gmP"
 k_extra "lp"
 k_extra "pop"
 case hz => k_extra "om"
 k_extra "lp"
 k_extra "setD"
 k_extra "lp"
 k_extra "gmA"
 k_extra "lp"
 k_extra "callk"
 k_extra "lp"
 k_extra "mkl"
 intro DL3 FL3 hL3 fL3 lL3 eL3
 k_extra "lp"
 k_extra "mkOperation"
 intro ao3 da3 FO3 hO3 tkO3 eo3 ed3 fO3 lO3
 k_extra "lp"
 k_extra "app"
 case hz => first | k_extra "om" | (simp only [List.length_append, List.length_singleton]; k_extra "om")
 k_extra "lp"
 k_extra "callk"
 k_extra "lp"
 k_extra "cShift"
 case hx => exact .zero
 case hy => exact .zero
 intro vr9 FA hA tkA hvr fA lA
 k_extra "lp"
 k_extra "setD"
 k_extra "lp"
 k_extra "callk"
 k_extra "lp"
 k_extra "cShift"
 case hx => exact .zero
 case hy => exact .zero
 intro vp9 FB hB tkB hvp fB lB
 k_extra "lp"
 k_extra "setD"
 k_extra "lp"
 rename Fm h F _ _ FB _ => fe
 have fz := fe.lose (.tail .head) (fun _ _ _ e => e) hct.2.h0 hct.2.nw
 simp only [List.append_assoc, List.cons_append, List.nil_append] at fz
 have k1 : OpV FB (.ref ao1) .ET := ⟨ao1, da1, DL1, _, [], rfl, Le.at (by k_extra "le") eo1, Le.at (by k_extra "le") ed1, Le.at (by k_extra "le") eL1, rfl⟩
 have k2 : OpV FB (.ref ao2) .Q := ⟨ao2, da2, DL2, _, [], rfl, Le.at (by k_extra "le") eo2, Le.at (by k_extra "le") ed2, Le.at (by k_extra "le") eL2, rfl⟩
 have k3 : OpV FB (.ref ao3) .BT := ⟨ao3, da3, DL3, _, [], rfl, Le.at (by k_extra "le") eo3, Le.at (by k_extra "le") ed3, Le.at (by k_extra "le") eL3, rfl⟩
 exact ret vr9 vp9 _ _ _ FB _ _ fz.ext fz.mus.tail k1 k2 k3 (hvr.mono lB) hvp
in #guard_msgs in open Nat
theorem c_lout_q {tp wa sa pa dd : Addr} {l : LS} {b : Bool} {vr vp : Value} {dvs ss : List Value} {tw : Tok} {Q : Value → Shared → Prop} (hR : Room 20 A) (f : Fm h₀ F₀ W mu F h)
  (t : Tk [(wa, dic (strKind prog w) (wkvs sa pa vr vp)), (pa, lst ss), (sa, dic (strKind prog w) (l.kvs b)), (dd, lst dvs)] [(wa, dic (strKind prog w) (wkvs sa pa vr vp)), (pa, lst ss), (sa, dic (strKind prog w) (l.kvs b)), (dd, lst dvs)] mu mu) (hd : dvs.length ≤ 800) (hs : ss.length ≤ 800) (hns : (sa == sysModules) = false)
  (ret : ∀ y vr' vp' o1 o2 o3 F' h' tk', Ext F h [wa, pa, sa, dd] F' h' → Mus F' h' ([(wa, dic (strKind prog w) (wkvs sa pa vr' vp')), (pa, lst (ss ++ [.ref y])), (sa, dic (strKind prog w) (l.kvs b)), (dd, lst (dvs ++ [o1, o2, o3]))] ++ [(y, dic (strKind prog w) (l.kvs b))]) → h.get? y = none → (y == sysModules) = false →
   OpV F' o1 .ET → OpV F' o2 .q → OpV F' o3 .BT → LMat F' vr' .one → LMat F' vp' .one → Q .none ⟨h', g, d, tk', os⟩) :
  wpAny (model prog w) A (call (.ref 872) [.str "q" tw, .ref tp, .ref wa, .ref dd]) Q E ⟨h, g, d, tk, os⟩ := by
 refine r_use (enterC [("word", .str ("q" : Str) tw), ("world", .ref wa), ("deeds", .ref dd)] ["state", "six"] [("Operation", .ref 407), ("range", .type "range"), ("_law_product", .ref 825), ("_law_six", .ref 839), ("dict", .type "dict"), ("_law_shift", .ref 832)] [("word", some (.str ("q" : Str) tw)), ("world", some (.ref wa)), ("deeds", some (.ref dd)), ("state", none), ("six", none)] (fun L => [(L + 1, cel (some (.ref tp)))]) hR f (f.take t) (by unfold K; k_is) (by unfold K; k_is) (BindsTo.of_eq rfl) rfl rfl (fun L => rfl) (of_decide_eq_true rfl) rfl (by decide) (Ga.all (.cons (gv_Operation) (.cons (gv_range) (.cons (gv__law_product) (.cons (gv__law_six) (.cons (gv_dict) (.cons (gv__law_shift) .nil))))))) rfl rfl rfl (by decide) (by decide) rfl ?_)
 intro env h1 tk1 L ok hcl f2 hR2
 simp only [List.cons_append, List.nil_append] at f2
 have hct := hcl "tape" (L + 1) (.head _)
 have ctp : Cl env "tape" (L + 1) := ⟨.inl hct.1.1, hct.1.2⟩
 k_extra "lp"
 k_extra "gmA"
 k_extra "lp"
 k_extra "callk"
 k_extra "lp"
 k_extra "mkl"
 intro DL1 FL1 hL1 fL1 lL1 eL1
 k_extra "lp"
 k_extra "mkOperation"
 intro ao1 da1 FO1 hO1 tkO1 eo1 ed1 fO1 lO1
 k_extra "lp"
 k_extra "app"
 case hz => first | k_extra "om" | (simp only [List.length_append, List.length_singleton]; k_extra "om")
 k_extra "lp"
 k_extra "gmA"
 k_extra "lp"
 k_extra "callk"
 k_extra "lp"
 k_extra "mkl"
 intro DL2 FL2 hL2 fL2 lL2 eL2
 k_extra "lp"
 k_extra "mkOperation"
 intro ao2 da2 FO2 hO2 tkO2 eo2 ed2 fO2 lO2
 k_extra "lp"
 k_extra "app"
 case hz => first | k_extra "om" | (simp only [List.length_append, List.length_singleton]; k_extra "om")
 k_extra "lp"
 k_extra "gmA"
 k_extra "lp"
 k_extra "callb"
 k_extra "lp"
 k_extra "dcp"
 case ns => exact hns
 intro y hy fy oy nsy
 k_extra "lp"
 k_extra "app"
 case hz => k_extra "om"
 k_extra "lp"
 k_extra "gmA"
 k_extra "lp"
 k_extra "callk"
 k_extra "lp"
 k_extra "mkl"
 intro DL3 FL3 hL3 fL3 lL3 eL3
 k_extra "lp"
 k_extra "mkOperation"
 intro ao3 da3 FO3 hO3 tkO3 eo3 ed3 fO3 lO3
 k_extra "lp"
 k_extra "app"
 case hz => first | k_extra "om" | (simp only [List.length_append, List.length_singleton]; k_extra "om")
 k_extra "lp"
 k_extra "callk"
 k_extra "lp"
 k_extra "cShift"
 case hx => exact .zero
 case hy => exact .zero
 intro vr9 FA hA tkA hvr fA lA
 k_extra "lp"
 k_extra "setD"
 k_extra "lp"
 k_extra "callk"
 k_extra "lp"
 k_extra "cShift"
 case hx => exact .zero
 case hy => exact .zero
 intro vp9 FB hB tkB hvp fB lB
 k_extra "lp"
 k_extra "setD"
 k_extra "lp"
 rename Fm h F _ _ FB _ => fe
 have fz := fe.lose (.tail (.tail .head)) (fun _ _ _ e => e) hct.2.h0 hct.2.nw
 simp only [List.append_assoc, List.cons_append, List.nil_append] at fz
 have k1 : OpV FB (.ref ao1) .ET := ⟨ao1, da1, DL1, _, [], rfl, Le.at (by k_extra "le") eo1, Le.at (by k_extra "le") ed1, Le.at (by k_extra "le") eL1, rfl⟩
 have k2 : OpV FB (.ref ao2) .q := ⟨ao2, da2, DL2, _, [], rfl, Le.at (by k_extra "le") eo2, Le.at (by k_extra "le") ed2, Le.at (by k_extra "le") eL2, rfl⟩
 have k3 : OpV FB (.ref ao3) .BT := ⟨ao3, da3, DL3, _, [], rfl, Le.at (by k_extra "le") eo3, Le.at (by k_extra "le") ed3, Le.at (by k_extra "le") eL3, rfl⟩
 have fp := fz.perm (.cons _ (List.perm_append_singleton _ _).symm)
 exact ret y vr9 vp9 _ _ _ FB _ _ fp.ext fp.mus.tail oy.h0 nsy k1 k2 k3 (hvr.mono lB) hvp
in #guard_msgs in open Nat
theorem c_lout_q0 {tp wa sa pa dd : Addr} {l : LS} {b : Bool} {vr vp : Value} {dvs ss : List Value} {tw : Tok} {Q : Value → Shared → Prop} (hR : Room 20 A) (f : Fm h₀ F₀ W mu F h)
  (t : Tk [(wa, dic (strKind prog w) (wkvs sa pa vr vp)), (pa, lst ss), (sa, dic (strKind prog w) (l.kvs b)), (dd, lst dvs)] [(wa, dic (strKind prog w) (wkvs sa pa vr vp)), (pa, lst ss), (sa, dic (strKind prog w) (l.kvs b)), (dd, lst dvs)] mu mu) (hd : dvs.length ≤ 800) (hs : ss.length ≤ 800) (hns : (sa == sysModules) = false) (he : ss = [])
  (ret : ∀ y vr' vp' o1 o2 o3 F' h' tk', Ext F h [wa, pa, sa, dd] F' h' → Mus F' h' ([(wa, dic (strKind prog w) (wkvs sa pa vr' vp')), (pa, lst (ss ++ [.ref y])), (sa, dic (strKind prog w) (l.kvs b)), (dd, lst (dvs ++ [o1, o2, o3]))] ++ [(y, dic (strKind prog w) (l.kvs b))]) → h.get? y = none → (y == sysModules) = false →
   OpV F' o1 .ET → OpV F' o2 .q → OpV F' o3 .BT → LMat F' vr' .one → LMat F' vp' .one → Q .none ⟨h', g, d, tk', os⟩) :
  wpAny (model prog w) A (call (.ref 872) [.str "Q" tw, .ref tp, .ref wa, .ref dd]) Q E ⟨h, g, d, tk, os⟩ := by
 refine r_use (enterC [("word", .str ("Q" : Str) tw), ("world", .ref wa), ("deeds", .ref dd)] ["state", "six"] [("Operation", .ref 407), ("range", .type "range"), ("_law_product", .ref 825), ("_law_six", .ref 839), ("dict", .type "dict"), ("_law_shift", .ref 832)] [("word", some (.str ("Q" : Str) tw)), ("world", some (.ref wa)), ("deeds", some (.ref dd)), ("state", none), ("six", none)] (fun L => [(L + 1, cel (some (.ref tp)))]) hR f (f.take t) (by unfold K; k_is) (by unfold K; k_is) (BindsTo.of_eq rfl) rfl rfl (fun L => rfl) (of_decide_eq_true rfl) rfl (by decide) (Ga.all (.cons (gv_Operation) (.cons (gv_range) (.cons (gv__law_product) (.cons (gv__law_six) (.cons (gv_dict) (.cons (gv__law_shift) .nil))))))) rfl rfl rfl (by decide) (by decide) rfl ?_)
 intro env h1 tk1 L ok hcl f2 hR2
 simp only [List.cons_append, List.nil_append] at f2
 have hct := hcl "tape" (L + 1) (.head _)
 have ctp : Cl env "tape" (L + 1) := ⟨.inl hct.1.1, hct.1.2⟩
 k_extra "lp"
 k_extra "gmA"
 k_extra "lp"
 k_extra "callk"
 k_extra "lp"
 k_extra "mkl"
 intro DL1 FL1 hL1 fL1 lL1 eL1
 k_extra "lp"
 k_extra "mkOperation"
 intro ao1 da1 FO1 hO1 tkO1 eo1 ed1 fO1 lO1
 k_extra "lp"
 k_extra "app"
 case hz => first | k_extra "om" | (simp only [List.length_append, List.length_singleton]; k_extra "om")
 k_extra "lp"
 subst he
 k_extra "mkl"
 intro DE FE hE fE lE eE
 refine r_neqL0 hR2 fE (.m (by k_extra "mem")) (.f eE) ?_
 k_extra "lp"
 k_extra "gmA"
 k_extra "lp"
 k_extra "callk"
 k_extra "lp"
 k_extra "mkl"
 intro DL2 FL2 hL2 fL2 lL2 eL2
 k_extra "lp"
 k_extra "mkOperation"
 intro ao2 da2 FO2 hO2 tkO2 eo2 ed2 fO2 lO2
 k_extra "lp"
 k_extra "app"
 case hz => first | k_extra "om" | (simp only [List.length_append, List.length_singleton]; k_extra "om")
 k_extra "lp"
 k_extra "gmA"
 k_extra "lp"
 k_extra "callb"
 k_extra "lp"
 k_extra "dcp"
 case ns => exact hns
 intro y hy fy oy nsy
 k_extra "lp"
 k_extra "app"
 case hz => k_extra "om"
 k_extra "lp"
 k_extra "gmA"
 k_extra "lp"
 k_extra "callk"
 k_extra "lp"
 k_extra "mkl"
 intro DL3 FL3 hL3 fL3 lL3 eL3
 k_extra "lp"
 k_extra "mkOperation"
 intro ao3 da3 FO3 hO3 tkO3 eo3 ed3 fO3 lO3
 k_extra "lp"
 k_extra "app"
 case hz => first | k_extra "om" | (simp only [List.length_append, List.length_singleton]; k_extra "om")
 k_extra "lp"
 k_extra "callk"
 k_extra "lp"
 k_extra "cShift"
 case hx => exact .zero
 case hy => exact .zero
 intro vr9 FA hA tkA hvr fA lA
 k_extra "lp"
 k_extra "setD"
 k_extra "lp"
 k_extra "callk"
 k_extra "lp"
 k_extra "cShift"
 case hx => exact .zero
 case hy => exact .zero
 intro vp9 FB hB tkB hvp fB lB
 k_extra "lp"
 k_extra "setD"
 k_extra "lp"
 rename Fm h F _ _ FB _ => fe
 have fz := fe.lose (.tail (.tail .head)) (fun _ _ _ e => e) hct.2.h0 hct.2.nw
 simp only [List.append_assoc, List.cons_append, List.nil_append] at fz
 have k1 : OpV FB (.ref ao1) .ET := ⟨ao1, da1, DL1, _, [], rfl, Le.at (by k_extra "le") eo1, Le.at (by k_extra "le") ed1, Le.at (by k_extra "le") eL1, rfl⟩
 have k2 : OpV FB (.ref ao2) .q := ⟨ao2, da2, DL2, _, [], rfl, Le.at (by k_extra "le") eo2, Le.at (by k_extra "le") ed2, Le.at (by k_extra "le") eL2, rfl⟩
 have k3 : OpV FB (.ref ao3) .BT := ⟨ao3, da3, DL3, _, [], rfl, Le.at (by k_extra "le") eo3, Le.at (by k_extra "le") ed3, Le.at (by k_extra "le") eL3, rfl⟩
 have fp := fz.perm (.cons _ (List.perm_append_singleton _ _).symm)
 exact ret y vr9 vp9 _ _ _ FB _ _ fp.ext fp.mus.tail oy.h0 nsy k1 k2 k3 (hvr.mono lB) hvp
in #guard_msgs in open Nat
end
section
variable {A : Around} {h₀ h : Heap} {F₀ F : Fz} {W : List Addr} {mu mu' : Mu} {tk : Nat}
theorem r_mulLg {env : Env} {b : Addr} {c : Cell} {l : Addr} {v : Value} {x : Int} {n : Nat} {u : Tok} {Q : Value → Shared → Prop} (f : Fm h₀ F₀ W ((b, c) :: mu) F h) (hl : At ((b, c) :: mu) F l (lst [v])) (hx : x = (n : Nat)) (hn : n ≤ 1000)
  (q : ∀ D vs h', vs.length = n → (∀ i, i < n → vs[i]? = some v) → Fm h₀ F₀ W ((b, c) :: (D, lst vs) :: mu) F h' → Own h₀ W D → Q (.ref D) ⟨h', g, d, tk, os⟩) : wpAny (model prog w) A (binaryOp .Mult (.ref l) (.int x u)) Q E ⟨h, g, d, tk, os⟩ :=
 r_mulL f hl hx hn fun D h' f' o => q D _ h' (List.length_replicate ..) (fun i hi => by rw [List.getElem?_replicate, if_pos hi]) f' o
in #guard_msgs in open Nat
theorem mk_dH4 {D T1 T2 T3 T4 : Addr} {v1 v2 v3 v4 : Value} (c1 c2 c3 c4 : Int) {mu' : Mu} {Q : Value → Shared → Prop} (f : Fm h₀ F₀ W mu F h) (hm : (D, dicH prog w []) ∈ mu) (k1 : TupI prog w F [1, c1] T1) (k2 : TupI prog w F [1, c2] T2) (k3 : TupI prog w F [1, c3] T3) (k4 : TupI prog w F [1, c4] T4)
  (nd : ([[1, c1], [1, c2], [1, c3], [1, c4]] : List (List Int)).Nodup) (u : Up D (dicH prog w [([1, c1], T1, v1), ([1, c2], T2, v2), ([1, c3], T3, v3), ([1, c4], T4, v4)]) mu mu') (q : ∀ h' tk', Fm h₀ F₀ W mu' F h' → Q (.ref D) ⟨h', g, d, tk', os⟩) :
  MkH prog w D Q [(.ref T1, v1), (.ref T2, v2), (.ref T3, v3), (.ref T4, v4)] ⟨h, g, d, tk, os⟩ := by
 refine mk_dH (xs := [([1, c1], T1, v1), ([1, c2], T2, v2), ([1, c3], T3, v3), ([1, c4], T4, v4)]) f hm rfl (fun x hx => ?_) nd u q
 simp only [List.mem_cons, List.not_mem_nil, or_false] at hx
 rcases hx with rfl | rfl | rfl | rfl
 ·exact k1
 ·exact k2
 ·exact k3
 ·exact k4
in #guard_msgs in open Nat
theorem Fm.frz {p : Addr × Cell} {a : Addr} {c : Cell} (f : Fm h₀ F₀ W (p :: (a, c) :: mu) F h) (o : Own h₀ W a) : ∃ G, Fm h₀ F₀ W (p :: mu) G h ∧ Le F G ∧ G a = some c :=
 ⟨_, f.freeze (.tail .head) o.h0 o.nw, Fz.le_set (f.mus.has (a, c) (.tail _ (.head _))).2, Fz.set_self⟩ in
theorem k_thousandth : ((1 : Int) : Rat) = 1 / 1000 * 10 ^ 3 := by grind
in #guard_msgs in open Nat
theorem c_lfonts {Q : Value → Shared → Prop} (hR : Room 16 A) (f : Fm h₀ F₀ W mu F h)
  (ret : ∀ fd fa fb F' h' tk', F' fd = some (dic (strKind prog w) [("A", .ref fa), ("B", .ref fb)]) → (fd == sysModules) = false → FontV prog w F' (.ref fa) true → FontV prog w F' (.ref fb) false → Fm h₀ F₀ W mu F' h' → Le F F' → Q (.ref fd) ⟨h', g, d, tk', os⟩) :
  wpAny (model prog w) A (call (.ref 846) []) Q E ⟨h, g, d, tk, os⟩ := by
 have t : Tk [] [] mu mu := .nil
 refine r_use (enter [] ["chars", "names", "first"] [("Font", .ref 787), ("CMap", .ref 650), ("Decimal", .ref 167)] [("chars", none), ("names", none), ("first", none)] hR f (f.take t) (by unfold K; k_is) (by unfold K; k_is) (BindsTo.of_eq rfl) rfl rfl (by decide) (by decide) (by decide) (Ga.all (.cons (gv_Font) (.cons (gv_CMap) (.cons (gv_Decimal) .nil)))) rfl rfl rfl (by decide) rfl ?_)
 intro env h2 tk2 ok f2 hR2
 k_extra "sf"
 k_extra "dH"
 intro ch h3 f3 o3 ns3
 k_extra "sf"
 k_extra "mkt"
 intro T1 F4 h4 f4 l4 e4
 k_extra "sf"
 k_extra "mkt"
 intro T2 F5 h5 f5 l5 e5
 k_extra "sf"
 k_extra "mkt"
 intro T3 F6 h6 f6 l6 e6
 k_extra "sf"
 k_extra "mkt"
 intro T4 F7 h7 f7 l7 e7
 k_extra "sf"
 refine mk_dH4 32 65 66 200 f7 (.tail _ (.head _)) (.two (by k_extra "fz")) (.two (by k_extra "fz")) (.two (by k_extra "fz")) (.two (by k_extra "fz")) (by decide) (.tail .head) fun h8 tk8 f8 => ?_
 k_extra "sf"
 k_extra "mkl"
 intro D9 F9 h9 f9 l9 e9
 k_extra "sf"
 refine r_mulLg (env := env) (n := 256) f9 (.f e9) rfl (by decide) fun nB vsB h10 hBl hB f10 o10 => ?_
 k_extra "sf"
 k_extra "setL"
 case hk => rw [hBl]; decide
 k_extra "sf"
 k_extra "setL"
 case hk => rw [List.length_set, hBl]; decide
 k_extra "sf"
 k_extra "callk"
 k_extra "sf"
 k_extra "mkl"
 intro D12 F12 h12 f12 l12 e12
 k_extra "sf"
 refine r_mulLg (env := env) (n := 256) f12 (.f e12) rfl (by decide) fun nC vsC h13 hCl hC f13 o13 => ?_
 k_extra "sf"
 k_extra "callk"
 k_extra "sf"
 k_extra "mkl"
 intro D14 F14 h14 f14 l14 e14
 k_extra "sf"
 k_extra "mkCMap"
 intro cm dcm F15 h15 tk15 e15 e15d f15 l15
 k_extra "sf"
 k_extra "mkl"
 intro D16 F16 h16 f16 l16 e16
 k_extra "sf"
 k_extra "mkt"
 intro D17 F17 h17 f17 l17 e17
 k_extra "sf"
 k_extra "mkl"
 intro D18 F18 h18 f18 l18 e18
 k_extra "sf"
 k_extra "callk"
 k_extra "sf"
 k_extra "cDec"
 case hx => exact k_thousandth
 intro _ F19 h19 tk19 n19 f19 l19
 obtain ⟨un, p1, p2, rfl, p3, p4⟩ := id n19
 k_extra "sf"
 k_extra "mkt"
 intro D20 F20 h20 f20 l20 e20
 k_extra "sf"
 k_extra "mkFont"
 intro fa dfa F21 h21 tk21 e21 e21d f21 l21
 k_extra "sf"
 k_extra "dS"
 intro fd h22 f22 o22 ns22
 k_extra "sf"
 k_extra "callk"
 k_extra "sf"
 k_extra "mkl"
 intro D23 F23 h23 f23 l23 e23
 k_extra "sf"
 k_extra "mkt"
 intro D24 F24 h24 f24 l24 e24
 k_extra "sf"
 k_extra "mkl"
 intro D25 F25 h25 f25 l25 e25
 k_extra "sf"
 k_extra "callk"
 k_extra "sf"
 k_extra "cDec"
 case hx => exact k_thousandth
 intro _ F26 h26 tk26 n26 f26 l26
 obtain ⟨un2, q1, q2, rfl, q3, q4⟩ := id n26
 k_extra "sf"
 k_extra "mkt"
 intro D27 F27 h27 f27 l27 e27
 k_extra "sf"
 k_extra "mkFont"
 intro fb dfb F28 h28 tk28 e28 e28d f28 l28
 k_extra "sf"
 k_extra "mkd"
 k_extra "sf"
 rename Fm h _ _ _ _ _ => f29
 obtain ⟨G1, g1, k1, q1⟩ := f29.frz o22
 obtain ⟨G2, g2, k2, _⟩ := g1.frz o13
 obtain ⟨G3, g3, k3, q3⟩ := g2.frz o10
 obtain ⟨G4, g4, k4, q4⟩ := g3.frz o3
 refine ret fd fa fb _ _ _ (Le.at (by k_extra "le") q1) ns22 ⟨fa, dfa, nC, .ref cm, D18, un, D20, 333, _, rfl, Le.at (by k_extra "le") e21, Le.at (by k_extra "le") e21d, Le.at (by k_extra "le") e20, ?_, rfl, ?_, ?_⟩ ⟨fb, dfb, nB, .none, D25, un2, D27, 0, _, rfl, Le.at (by k_extra "le") e28, Le.at (by k_extra "le") e28d, Le.at (by k_extra "le") e27, ?_, rfl, ?_, ?_⟩ (f.back t g4).1 (f.back t g4).2
 case refine_1 => exact n19.mono (by k_extra "le")
 case refine_4 => exact n26.mono (by k_extra "le")
 case refine_2 =>
  refine ⟨cm, _, _, ch, _, rfl, Le.at (by k_extra "le") e15, Le.at (by k_extra "le") e15d, q4, ns3, fun x hx => ?_, fun c hc => ?_⟩
  ·simp only [List.mem_cons, List.not_mem_nil, or_false] at hx
   rcases hx with rfl | rfl | rfl | rfl
   ·exact .two (Le.at (by k_extra "le") e4)
   ·exact .two (Le.at (by k_extra "le") e5)
   ·exact .two (Le.at (by k_extra "le") e6)
   ·exact .two (Le.at (by k_extra "le") e7)
  ·rcases hc with rfl | rfl | rfl | rfl <;> exact ⟨_, _, rfl⟩
 case refine_5 =>
  refine ⟨rfl, _, Le.at (by k_extra "le") q3, fun c hc => ?_⟩
  rcases hc with rfl | rfl | rfl | rfl
  ·exact ⟨"", _, by rw [List.getElem?_set_ne (by decide), List.getElem?_set_ne (by decide)]; exact hB 32 (by decide), .inl rfl, by decide +kernel⟩
  ·exact ⟨"dagger", _, by rw [List.getElem?_set_ne (by decide), List.getElem?_set]; exact if_pos rfl |>.trans (if_pos (by rw [hBl]; decide)), .inr (.inl rfl), by decide +kernel⟩
  ·exact ⟨"", _, by rw [List.getElem?_set_ne (by decide), List.getElem?_set_ne (by decide)]; exact hB 66 (by decide), .inl rfl, by decide +kernel⟩
  ·exact ⟨"ellipsis", _, by rw [List.getElem?_set]; exact if_pos rfl |>.trans (if_pos (by rw [List.length_set, hBl]; decide)), .inr (.inr rfl), by decide +kernel⟩
 case refine_3 =>
  refine ⟨D17, D16, 65, 66, _, _, _, Le.at (by k_extra "le") e18, Le.at (by k_extra "le") e17, Le.at (by k_extra "le") e16, Nat.le_of_ble_eq_true rfl, by decide, by decide, fun c hc h1 h2 => ?_, fun c hc h => ?_⟩
  ·rcases hc with rfl | rfl | rfl | rfl
   ·k_extra "om"
   ·exact ⟨_, rfl⟩
   ·exact ⟨_, rfl⟩
   ·k_extra "om"
  ·rcases hc with rfl | rfl | rfl | rfl
   ·rfl
   ·k_extra "om"
   ·k_extra "om"
   ·rfl
 case refine_6 =>
  refine ⟨D24, D23, 32, 66, _, _, _, Le.at (by k_extra "le") e25, Le.at (by k_extra "le") e24, Le.at (by k_extra "le") e23, Nat.le_of_ble_eq_true rfl, by decide, by decide, fun c hc h1 h2 => ?_, fun c hc h => ?_⟩
  ·rcases hc with rfl | rfl | rfl | rfl
   ·exact ⟨_, rfl⟩
   ·exact ⟨_, rfl⟩
   ·exact ⟨_, rfl⟩
   ·k_extra "om"
  ·rcases hc with rfl | rfl | rfl | rfl
   ·k_extra "om"
   ·k_extra "om"
   ·k_extra "om"
   ·rfl
in #guard_msgs in open Nat
end
section
variable {A : Around} {h₀ h : Heap} {F₀ F : Fz} {W : List Addr} {mu mu' : Mu} {tk : Nat}
theorem c_same {v : Value} {Y : Int} {x : Rat} {e0 : Nat} {ty : Tok} {Q : Value → Shared → Prop} (hR : Room 6 A) (f : Fm h₀ F₀ W mu F h) (tv : TolV F v x) (hs : Sc Y x) (hq : Dq 40 e0 x) (he : e0 ≤ 30000)
  (ret : ∀ F' h' tk', Fm h₀ F₀ W mu F' h' → Le F F' → Q (.bool true) ⟨h', g, d, tk', os⟩) :
  wpAny (model prog w) A (call (.ref 891) [v, .int Y ty]) Q E ⟨h, g, d, tk, os⟩ := by
 have t : Tk [] [] mu mu := .nil
 obtain ⟨T, m, p, t1, t2, rfl, eT, nf⟩ := tv
 have np := nf.le hq
 have hp40 := np.1
 refine r_use (enter ["number", "worth"] ["top", "places"] [] [("number", some (.ref T)), ("worth", some (.int Y ty)), ("top", none), ("places", none)] hR f (f.take t) (by unfold K; k_is) (by unfold K; k_is) (BindsTo.of_eq rfl) rfl rfl (by decide) (by decide) (by decide) (Ga.all .nil) rfl rfl rfl (by decide) rfl ?_)
 intro env h2 tk2 ok f2 hR2
 k_extra "sf"
 k_extra "un"
 k_extra "sf"
 refine ite_t (decide_eq_true (Int.natCast_nonneg _)) ?_
 k_extra "sf"
 refine ite_t (decide_eq_true (Int.ofNat_le.mpr np.1)) ?_
 k_extra "sf"
 have fe : (m * (10 : Int) ^ ((40 : Int) - (p : Int)).toNat == Y) = true := by
  rw [i4t, nf.same hs np.1]
  exact beq_self_eq_true Y
 by_cases z : p = 0
 ·have hz : ((p : Int) == 0) = true := by rw [z]; rfl
  refine ite_t hz ?_
  rw [hz]
  k_extra "sf"
  k_extra "pow?"
  case h0 => k_extra "om"
  case h1 => k_extra "om"
  k_extra "mul"
  case hm => exact bits_small np.2 (ten_bits (k := 40) (by k_extra "om")) (by k_extra "om")
  k_extra "sf"
  show Q (.bool _) _
  rw [fe]
  rename Fm h _ _ _ _ _ => fz
  exact ret _ _ _ (f.back t fz).1 (f.back t fz).2
 ·have hz : ((p : Int) == 0) = false := by simpa using z
  have hm : (m.fmod 10 != 0) = true := by
   rw [Int.fmod_eq_emod_of_nonneg _ (by decide)]
   have := nf.2
   simp only [bne_iff_ne, ne_eq]
   exact this.resolve_left fun e => absurd hz (by rw [e]; decide)
  refine ite_f hz ?_
  k_extra "sf"
  k_extra "mod"
  k_extra "sf"
  rw [hm]
  k_extra "sf"
  k_extra "pow?"
  case h0 => k_extra "om"
  case h1 => k_extra "om"
  k_extra "mul"
  case hm => exact bits_small np.2 (ten_bits (k := 40) (by k_extra "om")) (by k_extra "om")
  k_extra "sf"
  show Q (.bool _) _
  rw [fe]
  rename Fm h _ _ _ _ _ => fz
  exact ret _ _ _ (f.back t fz).1 (f.back t fz).2
in #guard_msgs in open Nat
end
noncomputable def stepWords : List Str := ["Tj", "TJ", "'", "\"", "Td", "TD", "T*", "Tm", "Tc", "Tw", "Tz", "TL", "Ts", "Tf"]
noncomputable def stepB : Op → Bool
  | .q => false
  | .Q => false
  | .cm _ => false
  | .BT => false
  | .ET => false
  | _ => true
theorem step_of {o : Op} {wd : Str} (e : opWord o = wd) (h : wd ∈ stepWords) : stepB o = true := by
 subst e
 cases o <;> first | rfl | exact absurd (show ("q" : Str) ∈ stepWords from h) (by decide +kernel) | exact absurd (show ("Q" : Str) ∈ stepWords from h) (by decide +kernel) | exact absurd (show ("cm" : Str) ∈ stepWords from h) (by decide +kernel) | exact absurd (show ("BT" : Str) ∈ stepWords from h) (by decide +kernel) | exact absurd (show ("ET" : Str) ∈ stepWords from h) (by decide +kernel)
in #guard_msgs in open Nat
theorem step_pile (s : WS) (o : Op) (h : stepB o = true) : (s.op o).pile = s.pile := by
 cases o <;> first | rfl | exact parts_pile _ _ | cases h in
theorem step_text (s : WS) (o : Op) (h : stepB o = true) : (s.op o).text = s.text := by
 cases o <;> first | rfl | exact parts_text _ _ | cases h in
theorem step_set (s : WS) (o : Op) (h : stepB o = true) (k : s.st.set = true ∨ opWord o = "Tf") : (s.op o).st.set = true := by
 rcases k with k | k
 ·cases o <;> first | exact k | rfl | exact (congrArg TS.set (parts_st _ _)).trans k | cases h
 ·cases o <;> first | rfl | exact absurd (show ("Tc" : Str) = "Tf" from k) (by decide +kernel) | exact absurd (show ("Tw" : Str) = "Tf" from k) (by decide +kernel) | exact absurd (show ("Tz" : Str) = "Tf" from k) (by decide +kernel) | exact absurd (show ("TL" : Str) = "Tf" from k) (by decide +kernel) | exact absurd (show ("Ts" : Str) = "Tf" from k) (by decide +kernel) | exact absurd (show ("Td" : Str) = "Tf" from k) (by decide +kernel) | exact absurd (show ("TD" : Str) = "Tf" from k) (by decide +kernel) | exact absurd (show ("T*" : Str) = "Tf" from k) (by decide +kernel) | exact absurd (show ("Tm" : Str) = "Tf" from k) (by decide +kernel) | exact absurd (show ("Tj" : Str) = "Tf" from k) (by decide +kernel) | exact absurd (show ("TJ" : Str) = "Tf" from k) (by decide +kernel) | exact absurd (show ("'" : Str) = "Tf" from k) (by decide +kernel) | exact absurd (show ("\"" : Str) = "Tf" from k) (by decide +kernel) | exact absurd (show ("q" : Str) = "Tf" from k) (by decide +kernel) | exact absurd (show ("Q" : Str) = "Tf" from k) (by decide +kernel) | exact absurd (show ("cm" : Str) = "Tf" from k) (by decide +kernel) | exact absurd (show ("BT" : Str) = "Tf" from k) (by decide +kernel) | exact absurd (show ("ET" : Str) = "Tf" from k) (by decide +kernel)
in #guard_msgs in open Nat
structure LT (F : Fz) (M : M6) (b : Bool) (l : LS) (vr vp : Value) (ps : List PE) (dvs ds : List Value) (ops : List Op) : Prop where
  lv : LwV F l vr vp ((WS.init M).run ops)
  pv : ∀ p ∈ ps, LsV F p.l p.t
  pt : ps.map (·.t) = ((WS.init M).run ops).pile
  dv : Al (OpV F) dvs ops
  du : Al (RowV F) ds ((WS.init M).run ops).rows
  ok : OkRun (WS.init M) ops
  q : WsQ (1 + ops.length) (20 + 600 * ops.length) ((WS.init M).run ops)
  tx : ((WS.init M).run ops).text = true
  st : b = true → ((WS.init M).run ops).st.set = true
  sp : ∀ t ∈ ((WS.init M).run ops).pile, t.set = true
  dl : ds.length ≤ 4 * ops.length
theorem run1 (M : M6) (ops : List Op) (o : Op) : (WS.init M).run (ops ++ [o]) = ((WS.init M).run ops).op o := WS.run_app _ _ _ in
theorem run3 (M : M6) (ops : List Op) (a b c : Op) : (WS.init M).run (ops ++ [a, b, c]) = ((((WS.init M).run ops).op a).op b).op c := WS.run_app _ _ _ in
theorem LT.mono {F F' : Fz} {M : M6} {b : Bool} {l : LS} {vr vp : Value} {ps : List PE} {dvs ds : List Value} {ops : List Op} (le : Le F F') (T : LT F M b l vr vp ps dvs ds ops) : LT F' M b l vr vp ps dvs ds ops :=
 ⟨T.lv.mono le, fun p hp => (T.pv p hp).mono le, T.pt, T.dv.mono fun v o => OpV.mono le, T.du.mono fun v r => RowV.mono le, T.ok, T.q, T.tx, T.st, T.sp, T.dl⟩
in #guard_msgs in open Nat
theorem LT.step {F F' : Fz} {M : M6} {b : Bool} {l l' : LS} {vr vp vr' vp' dv : Value} {ps : List PE} {dvs ds ds' : List Value} {ops : List Op} {o : Op} (T : LT F M b l vr vp ps dvs ds ops) (ho : o.ok ((WS.init M).run ops)) (hs : stepB o = true) (hb : b = true ∨ opWord o = "Tf") (hn : ops.length ≤ 22) (le : Le F F')
  (lv : LwV F' l' vr' vp' (((WS.init M).run ops).op o)) (ov : OpV F' dv o) (hr : Grow (RowV F') ((WS.init M).run ops) (((WS.init M).run ops).op o) ds') : LT F' M true l' vr' vp' ps (dvs ++ [dv]) (ds ++ ds') (ops ++ [o]) := by
 obtain ⟨rs, e, ar, lr⟩ := hr
 have q := T.q.op ho (by k_extra "om")
 have rl := ar.len
 have := T.dl
 refine ⟨?_, fun p hp => (T.pv p hp).mono le, ?_, (T.dv.mono fun v o => OpV.mono le).app (.cons ov .nil), ?_, T.ok.app ⟨ho, trivial⟩, ?_, ?_, fun _ => ?_, ?_, ?_⟩
 ·rw [run1]; exact lv
 ·rw [run1, step_pile _ _ hs]; exact T.pt
 ·rw [run1, e]; exact (T.du.mono fun v r => RowV.mono le).app ar
 ·rw [run1, List.length_append]
  exact q.to (by simp; k_extra "om") (by simp; k_extra "om")
 ·rw [run1, step_text _ _ hs]; exact T.tx
 ·rw [run1]; exact step_set _ _ hs (hb.imp T.st id)
 ·rw [run1, step_pile _ _ hs]; exact T.sp
 ·rw [List.length_append, List.length_append]; simp; k_extra "om"
in #guard_msgs in open Nat
theorem LT.out {F F' : Fz} {M : M6} {b : Bool} {l l' : LS} {vr vp vr' vp' o1 o2 o3 : Value} {ps ps' : List PE} {dvs ds : List Value} {ops : List Op} {o : Op} (T : LT F M b l vr vp ps dvs ds ops) (ho : o.ok (((WS.init M).run ops).op .ET)) (ht : ((((WS.init M).run ops).op .ET).op o).text = false) (hrs : ((((WS.init M).run ops).op .ET).op o).rows = ((WS.init M).run ops).rows) (hn : ops.length ≤ 20) (le : Le F F')
  (lv : LsV F' l' ((((WS.init M).run ops).op .ET).op o).st) (hr : LMat F' vr' .one) (hp : LMat F' vp' .one) (v1 : OpV F' o1 .ET) (v2 : OpV F' o2 o) (v3 : OpV F' o3 .BT)
  (pv : ∀ p ∈ ps', LsV F' p.l p.t) (pt : ps'.map (·.t) = ((((WS.init M).run ops).op .ET).op o).pile) (st : b = true → ((((WS.init M).run ops).op .ET).op o).st.set = true) (sp : ∀ t ∈ ((((WS.init M).run ops).op .ET).op o).pile, t.set = true) : LT F' M b l' vr' vp' ps' (dvs ++ [o1, o2, o3]) ds (ops ++ [.ET, o, .BT]) := by
 have q1 := T.q.op (o := .ET) T.tx (by k_extra "om")
 have q2 := q1.op ho (by k_extra "om")
 have q3 := q2.op (o := .BT) ht (by k_extra "om")
 have := T.dl
 refine ⟨?_, pv, ?_, (T.dv.mono fun v o => OpV.mono le).app (.cons v1 (.cons v2 (.cons v3 .nil))), ?_, T.ok.app ⟨T.tx, ho, ht, trivial⟩, ?_, ?_, fun h => ?_, ?_, ?_⟩
 ·rw [run3]; exact ⟨lv, hr, hp⟩
 ·rw [run3]; exact pt
 ·rw [run3]
  show Al _ _ ((((WS.init M).run ops).op .ET).op o).rows
  rw [hrs]; exact T.du.mono fun v r => RowV.mono le
 ·rw [run3, List.length_append]
  exact q3.to (by simp; k_extra "om") (by simp; k_extra "om")
 ·rw [run3]; rfl
 ·rw [run3]; exact st h
 ·rw [run3]; exact sp
 ·rw [List.length_append]; simp; k_extra "om"
in #guard_msgs in open Nat
section
variable {A : Around} {h₀ h : Heap} {F₀ F : Fz} {W : List Addr} {mu mu' : Mu} {tk : Nat}
theorem c_lstep {tp c wa sa pa dd du : Addr} {k : Nat} {l : LS} {s : WS} {vr vp : Value} {dvs ds : List Value} {wd : Str} {tw : Tok} {cc N : Nat} {Q : Value → Shared → Prop} (hR : Room 20 A) (f : Fm h₀ F₀ W mu F h)
  (t : Tk (lw5 prog w tp c k wa sa pa dd du vr vp l s.st.font dvs ds) (lw5 prog w tp c k wa sa pa dd du vr vp l s.st.font dvs ds) mu mu) (hc : TapeOk F c) (hk : k ≤ 1000) (lv : LwV F l vr vp s) (qs : WsQ cc N s) (hcc : cc ≤ 24) (hN : N ≤ 40000) (hd : dvs.length ≤ 800) (hdu : ds.length ≤ 700) (htx : s.text = true) (hset : s.st.set = true) (hw : wd ∈ stepWords)
  (ret : LRet prog w tp c k wa sa pa dd du dvs ds F h g d os s wd Q) : wpAny (model prog w) A (call (.ref 884) [.str wd tw, .ref tp, .ref wa, .ref dd, .ref du]) Q E ⟨h, g, d, tk, os⟩ := by
 simp only [stepWords, List.mem_cons, List.not_mem_nil, or_false] at hw
 rcases hw with rfl | rfl | rfl | rfl | rfl | rfl | rfl | rfl | h | h | h | h | h | rfl
 ·exact c_lstep_Tj hR f t hc hk lv qs hcc hN hd hdu htx hset ret
 ·exact c_lstep_TJ hR f t hc hk lv qs hcc hN hd hdu htx hset ret
 ·exact c_lstep_q1 hR f t hc hk lv qs hcc hN hd hdu htx hset ret
 ·exact c_lstep_q2 hR f t hc hk lv qs hcc hN hd hdu htx hset ret
 ·exact c_lstep_Td hR f t hc hk lv qs hcc hN hd hdu htx ret
 ·exact c_lstep_TD hR f t hc hk lv qs hcc hN hd hdu htx ret
 ·exact c_lstep_Ts hR f t hc hk lv qs hcc hN hd hdu htx ret
 ·exact c_lstep_Tm hR f t hc hk lv qs hcc hN hd hdu htx ret
 ·exact c_lstep1 hR f t hc hk lv hd (.inl h) ret
 ·exact c_lstep1 hR f t hc hk lv hd (.inr (.inl h)) ret
 ·exact c_lstep1 hR f t hc hk lv hd (.inr (.inr (.inl h))) ret
 ·exact c_lstep1 hR f t hc hk lv hd (.inr (.inr (.inr (.inl h)))) ret
 ·exact c_lstep1 hR f t hc hk lv hd (.inr (.inr (.inr (.inr h)))) ret
 ·exact c_lstep_Tf hR f t hc hk lv qs hcc hN hd hdu ret
in #guard_msgs in open Nat
end
noncomputable abbrev lwLs (sl : Addr) (k six state world deeds due word p found told part : Option Value) : Fs := [("script", some (.ref sl)), ("k", k), ("six", six), ("state", state), ("world", world), ("deeds", deeds), ("due", due), ("word", word), ("p", p), ("found", found), ("told_row", told), ("part", part)]
section
variable {A : Around} {h₀ h : Heap} {F₀ F : Fz} {W : List Addr} {mu mu' : Mu} {tk : Nat}
theorem perm7 {α : Type} (a b c d e f g : α) : [a, b, c, d, e, f, g].Perm [f, g, d, c, e, b, a] :=
 (List.perm_append_comm (l₁ := [a, b, c, d, e]) (l₂ := [f, g])).trans (.append_left [f, g] ((List.perm_append_comm (l₁ := [a, b, c]) (l₂ := [d, e])).trans (.cons d ((List.Perm.cons e (List.reverse_perm [a, b, c]).symm).trans (.swap c e [b, a])))))
in #guard_msgs in open Nat
theorem k_hundred : Sc (100 * 10 ^ 40) 100 := by
 unfold Sc
 rw [Rat.intCast_mul, r_cast]
 rfl in
theorem permQ {α : Type} (s d u x : α) (P J : List α) : (s :: d :: u :: x :: (P ++ J)).Perm (x :: d :: u :: (P ++ s :: J)) :=
 ((List.reverse_perm [s, d, u, x]).symm.append_right (P ++ J)).trans (.cons x ((List.Perm.swap d u _).trans (.cons d (.cons u (show (s :: (P ++ J)).Perm (P ++ s :: J) from List.perm_middle.symm)))))
in #guard_msgs in open Nat
theorem word_at : ∀ {j : Nat}, j < 19 → ∃ wd t, ([.str "Tj" 1435, .str "TJ" 1436, .str "'" 1437, .str "\"" 1438, .str "Td" 1439, .str "TD" 1440, .str "T*" 1441, .str "Tm" 1442, .str "Tc" 1443, .str "Tw" 1444, .str "Tz" 1445, .str "TL" 1446, .str "Ts" 1447, .str "Tf" 1448, .str "q" 1449, .str "Q" 1450, .str "cm" 1451, .str "Tj" 1452, .str "T*" 1453] : List Value)[j]? = some (.str wd t) ∧ (wd ∈ stepWords ∨ wd = "q" ∨ wd = "Q" ∨ wd = "cm")
 | 0, _ => ⟨_, _, rfl, by decide +kernel⟩
 | 1, _ => ⟨_, _, rfl, by decide +kernel⟩
 | 2, _ => ⟨_, _, rfl, by decide +kernel⟩
 | 3, _ => ⟨_, _, rfl, by decide +kernel⟩
 | 4, _ => ⟨_, _, rfl, by decide +kernel⟩
 | 5, _ => ⟨_, _, rfl, by decide +kernel⟩
 | 6, _ => ⟨_, _, rfl, by decide +kernel⟩
 | 7, _ => ⟨_, _, rfl, by decide +kernel⟩
 | 8, _ => ⟨_, _, rfl, by decide +kernel⟩
 | 9, _ => ⟨_, _, rfl, by decide +kernel⟩
 | 10, _ => ⟨_, _, rfl, by decide +kernel⟩
 | 11, _ => ⟨_, _, rfl, by decide +kernel⟩
 | 12, _ => ⟨_, _, rfl, by decide +kernel⟩
 | 13, _ => ⟨_, _, rfl, by decide +kernel⟩
 | 14, _ => ⟨_, _, rfl, by decide +kernel⟩
 | 15, _ => ⟨_, _, rfl, by decide +kernel⟩
 | 16, _ => ⟨_, _, rfl, by decide +kernel⟩
 | 17, _ => ⟨_, _, rfl, by decide +kernel⟩
 | 18, _ => ⟨_, _, rfl, by decide +kernel⟩
 | n + 19, h => absurd h (Nat.not_lt.mpr (Nat.le_add_left 19 n))
in #guard_msgs in open Nat
theorem step_any {wd : Str} (h : wd ∈ stepWords) (a b c : Tok) : ([.str "q" a, .str "Q" b, .str "cm" c] : List Value).any (isS wd) = false := by
 simp only [stepWords, List.mem_cons, List.not_mem_nil, or_false] at h
 rcases h with rfl | rfl | rfl | rfl | rfl | rfl | rfl | rfl | rfl | rfl | rfl | rfl | rfl | rfl <;> rfl
in #guard_msgs in open Nat
theorem oct_A : Oct #[65, 32] := by
 refine ⟨fun i c e => ?_, by decide⟩
 have : i = 0 ∨ i = 1 := by
  have := (Array.getElem?_eq_some_iff.mp e).1
  simp at this
  k_extra "om"
 rcases this with rfl | rfl
 ·cases e; exact .inr (.inl rfl)
 ·cases e; exact .inl rfl
in #guard_msgs in open Nat
theorem r_dict0 {pos : Pos} {Q : Value → Shared → Prop} (f : Fm h₀ F₀ W mu F h)
  (q : ∀ D F' h', Fm h₀ F₀ W mu F' h' → Le F F' → Q (.ref D) ⟨h', g, d, tk, os⟩) : wpAny (model prog w) A (eval (.Dict [] [] pos) env) Q E ⟨h, g, d, tk, os⟩ := by
 refine wpAny_Dict_empty ?_
 have f1 : Fm h₀ F₀ W mu F (h.push { cls := .type "dict", data := .dict #[] }) := f.call0 (Ext.push0 f.ext.fz)
 exact q _ _ _ f1 Le.rfl
in #guard_msgs in open Nat
theorem cutLr {lo hi : Option Int} {l : Addr} {vs us : List Value} {Q : Value → Shared → Prop} (f : Fm h₀ F₀ W mu F h) (hl : F l = some (Raw { cls := .type "list", data := .seq vs.toArray })) (hz : vs.length ≤ 1000) (e : slicePick vs.toArray lo hi none = us.toArray) (q : ∀ D F' h' tk', Fm h₀ F₀ W mu F' h' → Le F F' → F' D = some (lst us) → Q (.ref D) ⟨h', g, d, tk', os⟩) : CutL Q lo hi (.ref l) ⟨h, g, d, tk, os⟩ := by
 obtain ⟨o0, k1, k2⟩ := f.ext.fz _ _ hl
 have k2 : o0 = { cls := .type "list", data := .seq vs.toArray } := k2
 subst k2
 refine ⟨l, vs.toArray, rfl, ⟨_, k1, rfl, _, rfl⟩, by rw [sizeLine_eq]; simp; k_extra "om", fun o' k hf => ?_⟩
 have f1 : Fm h₀ F₀ W mu F (h.push o') := f.call0 (Ext.push0 f.ext.fz)
 have f2 := f1.pushF (c := lst us) (o := { cls := .type "list", data := .seq (slicePick vs.toArray lo hi none) }) ⟨0, by rw [e]⟩ rfl
 have l2 := Fz.le_set f1.none_new (c := lst us)
 rw [Heap.size_push] at f2 l2
 exact q _ _ _ _ f2 l2 Fz.set_self
in #guard_msgs in open Nat
theorem Fm.only {p : Addr × Cell} {h : Heap} {F : Fz} {mu : Mu} {F' : Fz} {h' : Heap} (f : Fm h F (adr []) (p :: mu) F' h') : Fm h F (adr []) [p] F' h' :=
 ⟨f.ext, ⟨fun q hq => f.mus.has q (by rcases List.mem_singleton.mp hq with rfl; exact .head _), List.nodup_cons.mpr ⟨(fun z => nomatch z), List.nodup_nil⟩⟩, fun q hq => f.own q (by rcases List.mem_singleton.mp hq with rfl; exact .head _), fun a ha => (nomatch ha), f.base⟩
in #guard_msgs in open Nat
theorem lsi_tape {c : Addr} {u : Tok} {o : Obj} (h : lst [.ref c, .int 0 u] o) : tapeC c 0 o := ⟨0, u, Nat.le_refl _, lst_lsi h⟩
in #guard_msgs in open Nat
inductive JW (sl DA sa wa dd du tp c pa L : Addr) (M : M6) (i : Nat) (ls : Fs) (mu : Mu) (F' : Fz) : Prop
  | mk (o1 o2 : Option Value) (els : ls = lwLs sl o1 (some (.ref DA)) (some (.ref sa)) (some (.ref wa)) (some (.ref dd)) (some (.ref du)) o2 none none none none) (sa1 : Addr) (vr2 vp2 : Value) (l2 : LS) (ps : List PE) (dvs ds : List Value) (ops : List Op) (k : Nat) (junk : Mu)
    (emu : mu = (L + 1, cel (some (.ref tp))) :: (tp, tapeC c k) :: (wa, dic (strKind prog w) (wkvs sa1 pa vr2 vp2)) :: (pa, lst (pvs ps)) :: (sa1, dic (strKind prog w) (l2.kvs ((WS.init M).run ops).st.font)) :: (dd, lst dvs) :: (du, lst ds) :: (pcs prog w ps ++ junk))
    (T : LT F' M true l2 vr2 vp2 ps dvs ds ops) (hol : ops.length ≤ 2 + 3 * i) (hkl : k ≤ 13 + 7 * i) (hsa : (sa1 == sysModules) = false) (hps : ∀ p ∈ ps, (p.a == sysModules) = false) (hpl : ps.length ≤ i) : JW sl DA sa wa dd du tp c pa L M i ls mu F'
inductive JR (sl DA sa wa dd du DnP DG : Addr) (o2 : Option Value) (i : Nat) (ls : Fs) (mu : Mu) (F' : Fz) : Prop
  | mk (o3 o4 o5 : Option Value) (els : ls = lwLs sl o3 (some (.ref DA)) (some (.ref sa)) (some (.ref wa)) (some (.ref dd)) (some (.ref du)) o2 (some (.ref DnP)) (some (.ref DG)) o4 o5) (emu : mu = []) : JR sl DA sa wa dd du DnP DG o2 i ls mu F'
inductive JP (sl DA sa wa dd du DnP DG T : Addr) (o2 k : Option Value) (m : Mu) (i : Nat) (ls : Fs) (mu : Mu) (F' : Fz) : Prop
  | mk (o5 : Option Value) (els : ls = lwLs sl k (some (.ref DA)) (some (.ref sa)) (some (.ref wa)) (some (.ref dd)) (some (.ref du)) o2 (some (.ref DnP)) (some (.ref DG)) (some (.ref T)) o5) (emu : mu = m) : JP sl DA sa wa dd du DnP DG T o2 k m i ls mu F'
inductive CmpAt (l1 l2 : List Value) (k : Nat) (F : Fz) : Prop
  | mk (v N tn x) (ev : l1[k]? = some v) (eN : l2[k]? = some (.int N tn)) (tv : TolV F v x) (sx : Sc N x) (qx : Dq 40 30000 x) : CmpAt l1 l2 k F
inductive LawTape (h : Heap) (F : Fz) (env : Env) (L sl : Addr) (v : Value) (s : Shared) : Prop
  | mk (D : Addr) (F' : Fz) (h' : Heap) (tk' : Nat) (cs' : List Value) (e0 : v = Value.ref D) (e1 : s = (⟨h', g, d, tk', os⟩ : Shared)) (f : Fm h F (adr []) ((env.locals, frm env (lwLs sl none none none none none none none none none none none)) :: (L + 1, cel none) :: []) F' h') (l : Le F F') (e2 : F' D = some (lst cs')) (hi : ∀ v ∈ cs', ∃ x t, v = Value.int x t) (h0 : 0 < cs'.length) (hz : cs'.length ≤ 48) : LawTape h F env L sl v s
theorem c_law {sl : Addr} {cs : List Value} {Q : Value → Shared → Prop} (hR : Room 46 A) (f : Fm h₀ F₀ W mu F h) (hs : F sl = some (Raw { cls := .type "list", data := .seq cs.toArray })) (hi : ∀ v ∈ cs, ∃ x t, v = Value.int x t) (hz : cs.length ≤ 1000)
  (ret : ∀ F' h' tk', Fm h₀ F₀ W mu F' h' → Le F F' → Q (.bool true) ⟨h', g, d, tk', os⟩) :
  wpAny (model prog w) A (call (.ref 896) [.ref sl]) Q E ⟨h, g, d, tk, os⟩ := by
 have t : Tk [] [] mu mu := .nil
 refine r_use (enterC [("script", .ref sl)] ["k", "six", "state", "world", "deeds", "due", "word", "p", "found", "told_row", "part"] [("list", .type "list"), ("range", .type "range"), ("_law_six", .ref 839), ("_law_unit", .ref 798), ("_law_shift", .ref 832), ("Operation", .ref 407), ("_law_step", .ref 884), ("_law_draw", .ref 806), ("_law_words", .ref 799), ("_law_outside", .ref 872), ("String", .ref 231), ("_law_show", .ref 860), ("lay_glyphs", .ref 628), ("TextSheet", .ref 470), ("_law_fonts", .ref 846), ("Matrix", .ref 360), ("len", .builtin "len"), ("_law_same", .ref 891)] [("script", some (.ref sl)), ("k", none), ("six", none), ("state", none), ("world", none), ("deeds", none), ("due", none), ("word", none), ("p", none), ("found", none), ("told_row", none), ("part", none)] (fun L => [(L + 1, cel none)]) hR f (f.take t) (by unfold K; k_is) (by unfold K; k_is) (BindsTo.of_eq rfl) rfl rfl (fun L => rfl) (of_decide_eq_true rfl) rfl (by decide) (Ga.all (.cons (gv_list) (.cons (gv_range) (.cons (gv__law_six) (.cons (gv__law_unit) (.cons (gv__law_shift) (.cons (gv_Operation) (.cons (gv__law_step) (.cons (gv__law_draw) (.cons (gv__law_words) (.cons (gv__law_outside) (.cons (gv_String) (.cons (gv__law_show) (.cons (gv_lay_glyphs) (.cons (gv_TextSheet) (.cons (gv__law_fonts) (.cons (gv_Matrix) (.cons (gv_len) (.cons (gv__law_same) .nil))))))))))))))))))) rfl rfl rfl (by decide) (by decide) rfl ?_)
 intro env h1 tk1 L ok hcl f2 hR2
 simp only [List.append_nil] at f2
 have hct := hcl "tape" (L + 1) (.head _)
 have ctp : Cl env "tape" (L + 1) := ⟨.inl hct.1.1, hct.1.2⟩
 k_extra "lp"
 refine wpAny_mono (Q := LawTape h F env L sl) ?first (fun v s hx => ?rest) (fun _ _ z => z)
 case first =>
  refine v_or ?_
  k_extra "callb"
  refine a_cons ?_
  refine r_sliceL1 ?_ (fun _ _ => rfl)
  k_extra "lp"
  refine cutLr (us := cs.take 48) f2 hs hz (slicePick_upto' cs.toArray 48) fun D3 F3 h3 tk3 f3 l3 e3 => ?_
  have hl : (cs.take 48).length ≤ 48 := List.length_take_le ..
  k_extra "lp"
  refine r_listF f3 (.f e3) (by k_extra "om") fun D4 F4 h4 f4 l4 e4 => ?_
  k_extra "lp"
  refine r_truthL f4 (.f e4) (by k_extra "om") _ rfl fun tk4 => ?_
  cases hx : (!(cs.take 48).isEmpty) with
  | true =>
   refine ite_t rfl ?_
   refine ⟨_, _, _, _, _, rfl, rfl, f4, l3.trans l4, e4, fun v hv => hi v (List.mem_of_mem_take hv), ?_, hl⟩
   cases hy : cs.take 48 with
   | nil => rw [hy] at hx; cases hx
   | cons a b => exact Nat.succ_pos _
  | false =>
   refine ite_f rfl ?_
   refine v_one ?_
   k_extra "lp"
   k_extra "mkl"
   intro D5 F5 h5 f5 l5 e5
   exact ⟨_, _, _, _, _, rfl, rfl, f5, (l3.trans l4).trans l5, e5, fun v hv => ⟨_, _, List.mem_singleton.mp hv⟩, Nat.le_of_ble_eq_true rfl, Nat.le_of_ble_eq_true rfl⟩
 obtain ⟨c, F3, h3, tk3, cs', rfl, rfl, f3, l3, ec, hci, hc0, hc48⟩ := hx
 have hc : TapeOk F3 c := ⟨cs', ec, hci, hc0, hc48⟩
 k_extra "lp"
 k_extra "mklM"
 intro tp h4 f4 o4
 have f5 := f4.weak (.tail _ (.head _)) (.tail .head) (fun o h => lsi_tape h)
 clear f4
 k_extra "kt"
 refine r_celset ok f5 hct.1 (.tail _ (.tail _ (.head _))) (.tail (.tail .head)) fun h6 f6 => ?_
 have f7 : Fm h F (adr []) ((env.locals, frm env (lwLs sl none none none none none none none none none none none)) :: (L + 1, cel (some (.ref tp))) :: (tp, tapeC c 0) :: []) F3 h6 := f6.perm (.cons _ (.swap _ _ _))
 clear f6 f5
 k_extra "lp"
 refine x_acomp (cl := [("tape", L + 1)]) ok (by assumption) ⟨_, .tail _ (.tail _ (.head _))⟩ rfl (by decide) (by simp [clos, ctp.lies]) rfl (by decide) (fun _ => rfl) ?_
 k_extra "callb"
 k_extra "sf"
 k_extra "rng"
 intro RA F1A h1A tk1A f1A l1A e1A
 refine iter_range (a := 0) (n := 6) f1A e1A (by decide) (by decide) fun I2 h8 f8 o8 => ?_
 refine comp_goA (fun i vs mu F' => JN (((L + 1, cel (some (.ref tp))) :: (tp, tapeC c (0 + i)) :: []) : Mu) i vs mu F') ok (Src.range (by k_extra "hd")) f8 o8 ⟨[], rfl, .nil, rfl⟩ (by decide) (by decide) rfl rfl ?_ ?_ (fun v => ⟨_, (.tail (.tail (.head)))⟩)
 ·rintro C i v vs mu' F9 h9 tk9 hi ⟨tv, rfl⟩ hvl ⟨xs, rfl, hxs, hxl⟩ l9 cok D' f9
  have ok' := cok.ok [("_law_number", .ref 813)] ok rfl (by decide) (Ga.all (.cons (gv__law_number) .nil))
  have ctp' := cok.cl (x := "tape") (.inl rfl) rfl
  k_extra "sf"
  k_extra "callk"
  k_extra "sf"
  k_extra "cNumber"
  intro T v X tX y F10 h10 tk10 e10 nv sx qx f10 l10
  refine ⟨_, F10, _, _, rfl, f10, l9.trans l10, xs ++ [y], rfl, (hxs.mono fun v x => PairV.mono l10).app (.cons ⟨T, v, X, tX, rfl, e10, nv, sx, qx⟩ .nil), by simp [hxl]⟩
 rintro DA vsA mu' F2A F3A h3A tk3A hvlA ⟨xsA, rfl, hxsA, hxlA⟩ l2A l3A eDA ls' hs f3A
 obtain rfl := hs.det (.tail (.tail (.head))) (of_decide_eq_true rfl)
 clear hs
 obtain ⟨xa, xb, xc, xd, xe, xf, rfl⟩ := list_6 hxlA
 have hxsA := hxsA.mono fun v x => PairV.mono l3A
 k_extra "lp"
 k_extra "dS"
 intro sa hS fS oS nsS
 k_extra "lp"
 k_extra "callk"
 k_extra "lp"
 refine r_comp (cl := []) rfl rfl (by decide) (fun _ => rfl) ?_
 k_extra "sf"
 refine iter_list (by assumption) (by k_extra "at") fun I2 h8 f8 o8 => ?_
 refine comp_goK (fun (i : Nat) (vs : List Value) (F' : Fz) => Al (ScV) vs ([xa, xb, xc, xd, xe, xf].take i)) (Src.list (by k_extra "hd") (by k_extra "fz") (f8.mus.has (I2, _) (.tail _ (.head _))).2) f8 o8 .nil (by rw [hxsA.len]; exact Nat.le_of_ble_eq_true rfl) (by decide) rfl rfl ?_ ?_
 ·rintro C i v us F9 h9 tk9 hi hv hul hus l9 cok D' f9
  have ok' := cok.ok [] ok rfl (by decide) (Ga.all .nil)
  obtain ⟨y, hy, T, v', X, tX, rfl, eT, nv, sx, qx⟩ := hxsA.at hv
  k_extra "sf"
  refine ⟨F9, _, _, rfl, f9, l9, ?_⟩
  rw [List.take_add_one, hy]
  exact hus.app (.cons ⟨X, tX, rfl, sx⟩ .nil)
 rintro DsC ussC F2sC F3sC h3sC tk3sC hulsC hussC l2sC l3sC eDsC f3sC
 have hussC := hussC
 rw [hxsA.len] at hussC
 simp only [List.length_cons, List.length_nil, List.take_succ_cons, List.take_nil, List.take_zero, Nat.zero_add, Nat.reduceAdd] at hussC
 obtain ⟨A6, B6, C6, D6, E6, G6, u0, u1, u2, u3, u4, u5, rfl, z0, z1, z2, z3, z4, z5⟩ := sc_of hussC
 k_extra "lp"
 k_extra "cSix"
 case h0 => exact (show Sc A6 (M6.mk xa xb xc xd xe xf).a from z0)
 case h1 => exact (show Sc B6 (M6.mk xa xb xc xd xe xf).b from z1)
 case h2 => exact (show Sc C6 (M6.mk xa xb xc xd xe xf).c from z2)
 case h3 => exact (show Sc D6 (M6.mk xa xb xc xd xe xf).d from z3)
 case h4 => exact (show Sc E6 (M6.mk xa xb xc xd xe xf).e from z4)
 case h5 => exact (show Sc G6 (M6.mk xa xb xc xd xe xf).f from z5)
 intro vm0 F20 h20 tk20 hvm0 f20 l20
 have q6 := q6_of hxsA.q
 k_extra "lp"
 k_extra "mkd"
 k_extra "lp"
 k_extra "callk"
 k_extra "cUnit"
 intro tu F21 h21 tk21 f21 l21
 k_extra "lp"
 k_extra "mul"
 case hm => exact bits_small (e := 8) (by decide) (ten_bits (k := 40) (by decide)) (by decide)
 k_extra "lp"
 k_extra "setDn"
 k_extra "lp"
 k_extra "setDn"
 k_extra "lp"
 k_extra "setDn"
 k_extra "lp"
 k_extra "dS"
 intro wa hW fW oW nsW
 k_extra "lp"
 k_extra "mklM"
 intro pa hP fP oP
 k_extra "lp"
 k_extra "callk"
 k_extra "lp"
 k_extra "cShift"
 case hx => exact .zero
 case hy => exact .zero
 intro vr FA hA tkA hvr fA lA
 k_extra "lp"
 k_extra "callk"
 k_extra "lp"
 k_extra "cShift"
 case hx => exact .zero
 case hy => exact .zero
 intro vp FB hB tkB hvp fB lB
 k_extra "lp"
 k_extra "mkd"
 k_extra "lp"
 k_extra "callk"
 k_extra "lp"
 k_extra "mkl"
 intro DO FO hO fO lO eO
 k_extra "lp"
 k_extra "mkOperation"
 intro ao da FP hP tkP eo ed fP lP
 k_extra "lp"
 k_extra "mklM"
 intro dd hd fd od
 k_extra "lp"
 k_extra "mklM"
 intro du hu fu ou
 k_extra "lp"
 rename Fm h _ _ _ _ _ => fq
 obtain ⟨l0, fT, hl0⟩ : ∃ l0 : LS, Fm h F (adr []) ((env.locals, frm env (lwLs sl none (some (.ref DA)) (some (.ref sa)) (some (.ref wa)) (some (.ref dd)) (some (.ref du)) none none none none none)) :: (L + 1, cel (some (.ref tp))) :: (tp, tapeC c 6) :: (wa, dic (strKind prog w) (wkvs sa pa vr vp)) :: (pa, lst []) :: (sa, dic (strKind prog w) (l0.kvs ((WS.init ⟨xa, xb, xc, xd, xe, xf⟩).run [.BT]).st.font)) :: (dd, lst [.ref ao]) :: (du, lst []) :: []) FP _ ∧ LsV FP l0 (WS.init ⟨xa, xb, xc, xd, xe, xf⟩).st :=
  ⟨⟨vm0, _, 0, _, 0, _, 0, _, 100 * 10 ^ 40, _, 0, _, 0, _⟩, fq.perm (.cons _ (perm7 ..)), ⟨show LMat FP vm0 ⟨xa, xb, xc, xd, xe, xf⟩ from by k_extra "LMat", .zero, .zero, .zero, k_hundred, .zero, .zero⟩⟩
 clear fq
 have T0 : LT FP ⟨xa, xb, xc, xd, xe, xf⟩ false l0 vr vp [] [.ref ao] [] [.BT] := by
  refine ⟨⟨⟨hl0.ctm, hl0.size, hl0.Tc, hl0.Tw, hl0.Tz, hl0.TL, hl0.Ts⟩, show LMat FP vr (M6.shift 0 0) from by k_extra "LMat", show LMat FP vp (M6.shift 0 0) from by k_extra "LMat"⟩, (fun p hp => nomatch hp), rfl, .cons ⟨ao, da, DO, _, [], rfl, eo, ed, Le.at (by k_extra "le") eO, rfl⟩ .nil, .nil, ⟨rfl, trivial⟩, (init_q q6).op (o := .BT) rfl (by decide), rfl, (fun h => nomatch h), (fun t ht => nomatch ht), Nat.zero_le _⟩
 k_extra "callk"
 k_extra "lp"
 refine' c_lstep_Tf (s := (WS.init ⟨xa, xb, xc, xd, xe, xf⟩).run [.BT]) (l := l0) (vr := vr) (vp := vp) (k := 6) (wa := wa) (sa := sa) (pa := pa) (dvs := [.ref ao]) (ds := []) ?hRx fT (by k_extra "tk") ?hc ?hk T0.lv T0.q ?hcc ?hN ?hd ?hdu ?ret
 case hRx => k_extra "room"
 case hc => k_extra "tape"
 case hk => decide
 case hcc => decide
 case hN => decide
 case hd => exact Nat.le_of_ble_eq_true rfl
 case hdu => exact Nat.le_of_ble_eq_true rfl
 intro o1 l1 vr1 vp1 dv1 ds1 F6 h6 tk6 ew x6 m6 ov6 ok6 lv6 hr6
 have T1 := T0.step ok6 (step_of ew (by decide +kernel)) (.inr ew) (by decide) x6.le lv6 ov6 hr6
 have f6 := fT.grow (us := lw5 prog w tp c 6 wa sa pa dd du vr vp l0 _ [.ref ao] []) (us' := lw5 prog w tp c 12 wa sa pa dd du vr1 vp1 l1 _ _ _) (nw := []) (by k_extra "tk") x6 m6 (fun a ha => nomatch ha)
 rw [List.append_nil] at f6
 have l6 := x6.le
 k_extra "lp"
 k_extra "callb"
 k_extra "lp"
 k_extra "callk"
 k_extra "lp"
 k_extra "cDraw"
 intro r tr F7 h7 tk7 r0 r1 f7 l7
 k_extra "lp"
 k_extra "rng"
 intro R F8 h8 tk8 f8 l8 e8
 obtain ⟨n, hn, hn2⟩ : ∃ n : Nat, 2 + r = 0 + (n : Int) ∧ n ≤ 5 := dr (a := 2) (b := 4) (by assumption) (by assumption)
 rw [hn] at e8
 have T8 := T1.mono (l7.trans l8)
 refine for_range (n := n) (a := 0) (JW sl DA sa wa dd du tp c pa L ⟨xa, xb, xc, xd, xe, xf⟩)
  (by k_extra "hd") e8 (by decide) (by k_extra "om") (by assumption) ⟨_, _, rfl, sa, vr1, vp1, l1, [], _, _, _, 13, [], rfl, T8, Nat.le_of_ble_eq_true rfl, by decide, nsS, fun p hp => (nomatch hp), Nat.le_refl _⟩ ?_ ?_ (fun I v => rfl)
 ·rintro I i ti ls' mu' F9 h9 tk9 hi ⟨o1, o2, rfl, sa1, vr2, vp2, l2, ps, dvs, ds, ops, k, junk, rfl, T, hol, hkl, hsa, hps, hpl⟩ l9 f9
  have dvl := T.dv.len
  have dsl := T.dl
  k_extra "lp"
  k_extra "callk"
  k_extra "lp"
  k_extra "cDraw"
  intro r tr F10 h10 tk10 r0 r1 f10 l10
  k_extra "lp"
  obtain ⟨wd, tw, ew, hw⟩ := word_at (j := r.toNat) (by k_extra "om")
  refine k_itemT f10 (kk_words) r0 (by k_extra "om") ew ?_ rfl
  k_extra "lp"
  k_extra "mkt"
  intro TW F11 h11 f11 l11 e11
  k_extra "lp"
  have T11 := T.mono (l10.trans l11)
  have q11 := T11.q
  rename Fm h _ _ _ F11 _ => f12
  rcases hw with hw | rfl | rfl | rfl
  ·refine r_inT f12 (.f e11) (by k_extra "ss2") false (step_any hw _ _ _) ?_
   k_extra "lp"
   k_extra "callk"
   k_extra "lp"
   rename Fm h _ _ _ F11 _ => f13
   refine' c_lstep (s := (WS.init ⟨xa, xb, xc, xd, xe, xf⟩).run ops) (l := l2) (vr := vr2) (vp := vp2) (k := k + 1) (wa := wa) (sa := sa1) (pa := pa) (dvs := dvs) (ds := ds) ?Rb f13 (by k_extra "tk") ?hcb ?hkb T11.lv q11 ?hccb ?hNb ?hdb ?hdub T11.tx (T11.st rfl) hw ?retb
   case Rb => k_extra "room"
   case hcb => k_extra "tape"
   case hkb => k_extra "om"
   case hccb => k_extra "om"
   case hNb => k_extra "om"
   case hdb => k_extra "om"
   case hdub => k_extra "om"
   intro o l' vr' vp' dv' ds' F14 h14 tk14 eo x14 m14 ov ok14 lv hr
   have l14 := x14.le
   have T' := T11.step ok14 (step_of eo hw) (.inl rfl) (by k_extra "om") l14 lv ov hr
   have f14 := f13.grow (us := lw5 prog w tp c (k + 1) wa sa1 pa dd du vr2 vp2 l2 _ dvs ds) (us' := lw5 prog w tp c (k + 1 + 6) wa sa1 pa dd du vr' vp' l' _ _ _) (nw := []) (by k_extra "tk") x14 m14 (fun a ha => nomatch ha)
   rw [List.append_nil, ← run1] at f14
   k_extra "lp"
   exact ⟨_, _, _, _, _, rfl, by assumption, (l9.trans (l10.trans l11)).trans l14, _, _, rfl, sa1, vr', vp', l', ps, _, _, _, _, junk, rfl, T', by rw [List.length_append]; show _ + 1 ≤ _; k_extra "om", by k_extra "om", hsa, hps, by k_extra "om"⟩
  ·refine r_inT f12 (.f e11) (by k_extra "ss2") true rfl ?_
   k_extra "lp"
   k_extra "callk"
   k_extra "lp"
   rename Fm h _ _ _ F11 _ => f13
   refine' c_lout_q (l := l2) (b := ((WS.init ⟨xa, xb, xc, xd, xe, xf⟩).run ops).st.font) (vr := vr2) (vp := vp2) (wa := wa) (sa := sa1) (pa := pa) (dvs := dvs) (ss := pvs ps) ?Rq f13 (by k_extra "tk") ?hdq ?hsq hsa ?retq
   case Rq => k_extra "room"
   case hdq => k_extra "om"
   case hsq => rw [pvs, List.length_reverse, List.length_map]; k_extra "om"
   intro y vr' vp' p1 p2 p3 F14 h14 tk14 x14 m14 hy nsy v1 v2 v3 hvr' hvp'
   have l14 := x14.le
   have T' : LT F14 ⟨xa, xb, xc, xd, xe, xf⟩ true l2 vr' vp' (⟨y, l2, ((WS.init ⟨xa, xb, xc, xd, xe, xf⟩).run ops).st⟩ :: ps) _ ds (ops ++ [.ET, .q, .BT]) :=
    T11.out (o := .q) trivial rfl rfl (by k_extra "om") l14 (T11.lv.st.mono l14) hvr' hvp' v1 v2 v3 (fun p hp => by
     rcases List.mem_cons.mp hp with rfl | hp
     ·exact T11.lv.st.mono l14
     ·exact (T11.pv p hp).mono l14) (congrArg _ T11.pt) T11.st (fun t ht => by
     rcases List.mem_cons.mp ht with rfl | ht
     ·exact T11.st rfl
     ·exact T11.sp t ht)
   have f14 := f13.grow (us := [(wa, dic (strKind prog w) (wkvs sa1 pa vr2 vp2)), (pa, lst (pvs ps)), (sa1, dic (strKind prog w) (l2.kvs ((WS.init ⟨xa, xb, xc, xd, xe, xf⟩).run ops).st.font)), (dd, lst dvs)]) (us' := [(wa, dic (strKind prog w) (wkvs sa1 pa vr' vp')), (pa, lst (pvs ps ++ [.ref y])), (sa1, dic (strKind prog w) (l2.kvs ((WS.init ⟨xa, xb, xc, xd, xe, xf⟩).run ops).st.font)), (dd, lst (dvs ++ [p1, p2, p3]))]) (nw := [(y, dic (strKind prog w) (l2.kvs ((WS.init ⟨xa, xb, xc, xd, xe, xf⟩).run ops).st.font))]) (by k_extra "tk") x14 m14 (fun a ha => by rcases List.mem_singleton.mp ha with rfl; exact hy)
   rw [show pvs ps ++ [Value.ref y] = pvs (⟨y, l2, ((WS.init ⟨xa, xb, xc, xd, xe, xf⟩).run ops).st⟩ :: ps) from (pvs_cons (⟨y, l2, ((WS.init ⟨xa, xb, xc, xd, xe, xf⟩).run ops).st⟩ : PE) ps).symm] at f14
   have f15 := f14.perm (.cons _ (.cons _ (.cons _ (.cons _ (.cons _ (.cons _ (.cons _ (.cons _ (.cons _ (List.perm_append_singleton _ _))))))))))
   clear f14
   k_extra "lp"
   rename Fm h _ _ _ F14 _ => f16
   have er : ((WS.init ⟨xa, xb, xc, xd, xe, xf⟩).run (ops ++ [.ET, .q, .BT])).st.font = ((WS.init ⟨xa, xb, xc, xd, xe, xf⟩).run ops).st.font := by rw [run3]; rfl
   rw [← er] at f16
   exact ⟨_, _, _, _, _, rfl, f16, (l9.trans (l10.trans l11)).trans l14, _, _, rfl, sa1, vr', vp', l2, _, _, _, _, _, junk, by rw [er]; rfl, T', by rw [List.length_append]; show _ + 3 ≤ _; k_extra "om", by k_extra "om", hsa, (fun p hp => by
    rcases List.mem_cons.mp hp with rfl | hp
    ·exact nsy
    ·exact hps p hp), by show _ + 1 ≤ _; k_extra "om"⟩
  ·refine r_inT f12 (.f e11) (by k_extra "ss2") true rfl ?_
   k_extra "lp"
   k_extra "callk"
   k_extra "lp"
   cases ps with
   | nil =>
    rename Fm h _ _ _ F11 _ => f13
    refine' c_lout_q0 (l := l2) (b := ((WS.init ⟨xa, xb, xc, xd, xe, xf⟩).run ops).st.font) (vr := vr2) (vp := vp2) (wa := wa) (sa := sa1) (pa := pa) (dvs := dvs) (ss := pvs []) ?Rz f13 (by k_extra "tk") ?hdz ?hsz hsa rfl ?retz
    case Rz => k_extra "room"
    case hdz => k_extra "om"
    case hsz => rw [pvs, List.length_reverse, List.length_map]; k_extra "om"
    intro y vr' vp' p1 p2 p3 F14 h14 tk14 x14 m14 hy nsy v1 v2 v3 hvr' hvp'
    have l14 := x14.le
    have T' : LT F14 ⟨xa, xb, xc, xd, xe, xf⟩ true l2 vr' vp' (⟨y, l2, ((WS.init ⟨xa, xb, xc, xd, xe, xf⟩).run ops).st⟩ :: []) _ ds (ops ++ [.ET, .q, .BT]) :=
     T11.out (o := .q) trivial rfl rfl (by k_extra "om") l14 (T11.lv.st.mono l14) hvr' hvp' v1 v2 v3 (fun p hp => by
      rcases List.mem_cons.mp hp with rfl | hp
      ·exact T11.lv.st.mono l14
      ·exact (T11.pv p hp).mono l14) (congrArg _ T11.pt) T11.st (fun t ht => by
      rcases List.mem_cons.mp ht with rfl | ht
      ·exact T11.st rfl
      ·exact T11.sp t ht)
    have f14 := f13.grow (us := [(wa, dic (strKind prog w) (wkvs sa1 pa vr2 vp2)), (pa, lst (pvs [])), (sa1, dic (strKind prog w) (l2.kvs ((WS.init ⟨xa, xb, xc, xd, xe, xf⟩).run ops).st.font)), (dd, lst dvs)]) (us' := [(wa, dic (strKind prog w) (wkvs sa1 pa vr' vp')), (pa, lst (pvs [] ++ [.ref y])), (sa1, dic (strKind prog w) (l2.kvs ((WS.init ⟨xa, xb, xc, xd, xe, xf⟩).run ops).st.font)), (dd, lst (dvs ++ [p1, p2, p3]))]) (nw := [(y, dic (strKind prog w) (l2.kvs ((WS.init ⟨xa, xb, xc, xd, xe, xf⟩).run ops).st.font))]) (by k_extra "tk") x14 m14 (fun a ha => by rcases List.mem_singleton.mp ha with rfl; exact hy)
    rw [show pvs [] ++ [Value.ref y] = pvs (⟨y, l2, ((WS.init ⟨xa, xb, xc, xd, xe, xf⟩).run ops).st⟩ :: []) from (pvs_cons (⟨y, l2, ((WS.init ⟨xa, xb, xc, xd, xe, xf⟩).run ops).st⟩ : PE) []).symm] at f14
    have f15 := f14.perm (.cons _ (.cons _ (.cons _ (.cons _ (.cons _ (.cons _ (.cons _ (.cons _ (.cons _ (List.perm_append_singleton _ _))))))))))
    clear f14
    k_extra "lp"
    rename Fm h _ _ _ F14 _ => f16
    have er : ((WS.init ⟨xa, xb, xc, xd, xe, xf⟩).run (ops ++ [.ET, .q, .BT])).st.font = ((WS.init ⟨xa, xb, xc, xd, xe, xf⟩).run ops).st.font := by rw [run3]; rfl
    rw [← er] at f16
    exact ⟨_, _, _, _, _, rfl, f16, (l9.trans (l10.trans l11)).trans l14, _, _, rfl, sa1, vr', vp', l2, _, _, _, _, _, junk, by rw [er]; rfl, T', by rw [List.length_append]; show _ + 3 ≤ _; k_extra "om", by k_extra "om", hsa, (fun p hp => by
     rcases List.mem_cons.mp hp with rfl | hp
     ·exact nsy
     ·exact hps p hp), by show _ + 1 ≤ _; k_extra "om"⟩
   | cons p ps' =>
    rename Fm h _ _ _ F11 _ => f13
    rw [pvs_cons] at f13
    have hp : ((WS.init ⟨xa, xb, xc, xd, xe, xf⟩).run ops).pile = p.t :: ps'.map (·.t) := T11.pt.symm
    have eQ : ((((WS.init ⟨xa, xb, xc, xd, xe, xf⟩).run ops).op .ET).op .Q) = { (((WS.init ⟨xa, xb, xc, xd, xe, xf⟩).run ops).op .ET) with st := p.t, pile := ps'.map (·.t) } := by
     show (match ((WS.init ⟨xa, xb, xc, xd, xe, xf⟩).run ops).pile with | [] => _ | t :: r => _) = _
     rw [hp]
    refine' c_lout_Q (tp := tp) (vr := vr2) (vp := vp2) (wa := wa) (sa := sa1) (pa := pa) (ya := p.a) (dvs := dvs) (ss := pvs ps') ?RQ f13 (by k_extra "tk") ?hdQ ?hsQ ?retQ
    case RQ => k_extra "room"
    case hdQ => k_extra "om"
    case hsQ =>
     rw [pvs, List.length_reverse, List.length_map]
     have : ps'.length + 1 ≤ i := hpl
     k_extra "om"
    intro vr' vp' p1 p2 p3 F14 h14 tk14 x14 m14 v1 v2 v3 hvr' hvp'
    have l14 := x14.le
    have T' : LT F14 ⟨xa, xb, xc, xd, xe, xf⟩ true p.l vr' vp' ps' _ ds (ops ++ [.ET, .Q, .BT]) :=
     T11.out (o := .Q) (by show ((WS.init ⟨xa, xb, xc, xd, xe, xf⟩).run ops).pile ≠ []; rw [hp]; exact List.cons_ne_nil _ _) (by rw [eQ]; rfl) (by rw [eQ]; rfl) (by k_extra "om") l14 (by rw [eQ]; exact (T11.pv p (.head _)).mono l14) hvr' hvp' v1 v2 v3 (fun p' hp' => (T11.pv p' (.tail _ hp')).mono l14) (by rw [eQ]) (by rw [eQ]; exact fun _ => T11.sp p.t (by rw [hp]; exact .head _)) (by rw [eQ]; exact fun t ht => T11.sp t (by rw [hp]; exact .tail _ ht))
    have f14 := f13.grow (us := [(wa, dic (strKind prog w) (wkvs sa1 pa vr2 vp2)), (pa, lst (pvs ps' ++ [.ref p.a])), (dd, lst dvs)]) (us' := [(wa, dic (strKind prog w) (wkvs p.a pa vr' vp')), (pa, lst (pvs ps')), (dd, lst (dvs ++ [p1, p2, p3]))]) (nw := []) (by k_extra "tk") x14 m14 (fun a ha => nomatch ha)
    rw [List.append_nil] at f14
    have f15 := f14.perm (.cons _ (.cons _ (.cons _ (.cons _ (.cons _ (.cons _ (permQ _ _ _ (p.a, dic (strKind prog w) (p.l.kvs p.t.font)) (pcs prog w ps') junk)))))))
    clear f14
    k_extra "lp"
    rename Fm h _ _ _ F14 _ => f16
    have er : ((WS.init ⟨xa, xb, xc, xd, xe, xf⟩).run (ops ++ [.ET, .Q, .BT])).st.font = p.t.font := by
     rw [run3]
     show ((((WS.init ⟨xa, xb, xc, xd, xe, xf⟩).run ops).op .ET).op .Q).st.font = _
     rw [eQ]
    exact ⟨_, _, _, _, _, rfl, f16, (l9.trans (l10.trans l11)).trans l14, _, _, rfl, p.a, vr', vp', p.l, ps', _, ds, _, _, _, by rw [er], T', by rw [List.length_append]; show _ + 3 ≤ _; k_extra "om", by k_extra "om", hps p (.head _), (fun p' hp' => hps p' (.tail _ hp')), by have : ps'.length + 1 ≤ i := hpl; k_extra "om"⟩
  ·refine r_inT f12 (.f e11) (by k_extra "ss2") true rfl ?_
   k_extra "lp"
   k_extra "callk"
   k_extra "lp"
   rename Fm h _ _ _ F11 _ => f13
   refine' c_lout_cm (l := l2) (b := ((WS.init ⟨xa, xb, xc, xd, xe, xf⟩).run ops).st.font) (ctm := ((WS.init ⟨xa, xb, xc, xd, xe, xf⟩).run ops).st.ctm) (k := k + 1) (vr := vr2) (vp := vp2) (wa := wa) (sa := sa1) (pa := pa) (dvs := dvs) ?Rc f13 (by k_extra "tk") ?hcc1 ?hkc T11.lv.st.ctm q11.st.ctm ?hccc ?hNc ?hdc ?retc
   case Rc => k_extra "room"
   case hcc1 => k_extra "tape"
   case hkc => k_extra "om"
   case hccc => k_extra "om"
   case hNc => k_extra "om"
   case hdc => k_extra "om"
   intro m vm vr' vp' p1 p2 p3 F14 h14 tk14 x14 m14 v1 v2 v3 qm hvm hvr' hvp'
   have l14 := x14.le
   have T' : LT F14 ⟨xa, xb, xc, xd, xe, xf⟩ true { l2 with vm := vm } vr' vp' ps _ ds (ops ++ [.ET, .cm m, .BT]) :=
    T11.out (o := .cm m) qm rfl rfl (by k_extra "om") l14 ⟨hvm, T11.lv.st.size, T11.lv.st.Tc, T11.lv.st.Tw, T11.lv.st.Tz, T11.lv.st.TL, T11.lv.st.Ts⟩ hvr' hvp' v1 v2 v3 (fun p hp => (T11.pv p hp).mono l14) T11.pt T11.st T11.sp
   have f14 := f13.grow (us := [(tp, tapeC c (k + 1)), (wa, dic (strKind prog w) (wkvs sa1 pa vr2 vp2)), (sa1, dic (strKind prog w) (l2.kvs ((WS.init ⟨xa, xb, xc, xd, xe, xf⟩).run ops).st.font)), (dd, lst dvs)]) (us' := [(tp, tapeC c (k + 1 + 6)), (wa, dic (strKind prog w) (wkvs sa1 pa vr' vp')), (sa1, dic (strKind prog w) (({ l2 with vm := vm } : LS).kvs ((WS.init ⟨xa, xb, xc, xd, xe, xf⟩).run ops).st.font)), (dd, lst (dvs ++ [p1, p2, p3]))]) (nw := []) (by k_extra "tk") x14 m14 (fun a ha => nomatch ha)
   rw [List.append_nil] at f14
   k_extra "lp"
   rename Fm h _ _ _ F14 _ => f16
   have er : ((WS.init ⟨xa, xb, xc, xd, xe, xf⟩).run (ops ++ [.ET, .cm m, .BT])).st.font = ((WS.init ⟨xa, xb, xc, xd, xe, xf⟩).run ops).st.font := by rw [run3]; rfl
   exact ⟨_, _, _, _, _, rfl, f16, (l9.trans (l10.trans l11)).trans l14, _, _, rfl, sa1, vr', vp', { l2 with vm := vm }, ps, _, ds, _, _, junk, by rw [er], T', by rw [List.length_append]; show _ + 3 ≤ _; k_extra "om", by k_extra "om", hsa, hps, by k_extra "om"⟩
 rintro ls' mu' F9 h9 tk9 ⟨o1, o2, rfl, sa1, vr2, vp2, l2, ps, dvs, ds, ops, k, junk, rfl, T, hol, hkl, hsa, hps, hpl⟩ l9 f9
 k_extra "lp"
 have dvl := T.dv.len
 have dsl := T.dl
 have l9s := T.lv.st
 have hpl' := T.lv.place
 have Tq := T.q
 k_extra "gmA"
 k_extra "lp"
 k_extra "callk"
 k_extra "lp"
 k_extra "callk"
 k_extra "lp"
 k_extra "mkString"
 intro sao sda F20 h20 tk20 esa esda f20 l20
 k_extra "lp"
 k_extra "mkl"
 intro D21 F21 h21 f21 l21 e21
 k_extra "lp"
 k_extra "mkOperation"
 intro ao2 dao2 F22 h22 tk22 eao2 edao2 f22 l22
 k_extra "lp"
 k_extra "app"
 case hz => k_extra "om"
 k_extra "lp"
 k_extra "callk"
 k_extra "lp"
 have l9s : LsV F22 l2 ((WS.init ⟨xa, xb, xc, xd, xe, xf⟩).run ops).st := l9s.mono (by k_extra "le")
 have obo : Oct #[65, 32] := oct_A
 k_extra "cLshowA"
 case hp => exact hpl'.mono (by k_extra "le")
 case ob => exact obo
 case qs => exact Tq.st
 case qp => exact Tq.place
 case hc => k_extra "om"
 case hN => k_extra "om"
 case hd => k_extra "om"
 intro vsh dsh F23 h23 tk23 xxs ms hvsh hdsh
 rename Fm h F _ _ F22 _ => fcs
 have fS := fcs.tkW ms xxs rfl (by k_extra "tk")
 clear fcs
 have lxs := xxs.le
 k_extra "lp"
 k_extra "gmA"
 k_extra "lp"
 k_extra "callk"
 k_extra "lp"
 k_extra "mkl"
 intro D24 F24 h24 f24 l24 e24
 k_extra "lp"
 k_extra "mkOperation"
 intro ao3 dao3 F25 h25 tk25 eao3 edao3 f25 l25
 k_extra "lp"
 k_extra "app"
 case hz => simp only [List.length_append, List.length_singleton]; k_extra "om"
 k_extra "lp"
 have okT : Op.ok ((WS.init ⟨xa, xb, xc, xd, xe, xf⟩).run ops) (.Tj (codesOf #[65, 32])) := ⟨T.tx, T.st rfl, obo.okL⟩
 have es : StrV F25 (.ref sao) (codesOf #[65, 32]) := ⟨sao, sda, _, _, rfl, Le.at (by k_extra "le") esa, Le.at (by k_extra "le") esda, obo, rfl⟩
 have T1' : LT F25 ⟨xa, xb, xc, xd, xe, xf⟩ true l2 vr2 vsh ps (dvs ++ [.ref ao2]) (ds ++ dsh) (ops ++ [.Tj (codesOf #[65, 32])]) :=
  T.step okT rfl (.inl rfl) (by k_extra "om") (show Le F9 F25 from by k_extra "le") ⟨T.lv.st.mono (show Le F9 F25 from by k_extra "le"), T.lv.row.mono (show Le F9 F25 from by k_extra "le"), hvsh.mono (show Le F23 F25 from by k_extra "le")⟩ ⟨ao2, dao2, D21, _, [.ref sao], rfl, Le.at (by k_extra "le") eao2, Le.at (by k_extra "le") edao2, Le.at (by k_extra "le") e21, .ref sao, rfl, es⟩
   ⟨_, rfl, hdsh.mono fun v r => RowV.mono (show Le F23 F25 from by k_extra "le"), by have := obo.sz; rw [showR_len, codes_len]; k_extra "om"⟩
 have v3 : OpV F25 (.ref ao3) .ET := ⟨ao3, dao3, D24, _, [], rfl, eao3, edao3, Le.at (by k_extra "le") e24, rfl⟩
 have hxsA := hxsA.mono fun v x => PairV.mono (show Le F3A F25 from by k_extra "le")
 refine x_acomp (cl := []) ok (by assumption) ⟨_, .tail _ (.tail _ (.tail _ (.tail _ (.tail _ (.tail _ (.tail _ (.tail _ (.head _))))))))⟩ rfl (by decide) rfl rfl (by decide) (fun _ => rfl) ?_
 k_extra "sf"
 refine iter_list (by assumption) (by k_extra "at") fun I2 h8 f8 o8 => ?_
 refine comp_goAK (fun (i : Nat) (vs : List Value) (F' : Fz) => Al (NumV F') vs ([xa, xb, xc, xd, xe, xf].take i)) ok (Src.list (by k_extra "hd") (by k_extra "fz") (f8.mus.has (I2, _) (.tail _ (.head _))).2) f8 o8 .nil (by rw [hxsA.len]; exact Nat.le_of_ble_eq_true rfl) (by decide) rfl rfl ?_ ?_ (fun v => ⟨_, (.tail (.tail (.tail (.tail (.tail (.tail (.tail (.tail (.head)))))))))⟩)
 ·rintro C i v us F9 h9 tk9 hi hv hul hus l9 cok D' f9
  have ok' := cok.ok [] ok rfl (by decide) (Ga.all .nil)
  obtain ⟨y, hy, T, v', X, tX, rfl, eT, nv, sx, qx⟩ := hxsA.at hv
  k_extra "sf"
  refine ⟨F9, _, _, rfl, f9, l9, ?_⟩
  rw [List.take_add_one, hy]
  exact hus.app (.cons (nv.mono l9) .nil)
 rintro DnP usnP F2nP F3nP h3nP tk3nP hulnP husnP l2nP l3nP eDnP ls' hs f3nP
 obtain rfl := hs.det (.tail (.tail (.tail (.tail (.tail (.tail (.tail (.tail (.head))))))))) (of_decide_eq_true rfl)
 clear hs
 have husnP := husnP.mono fun v x => NumV.mono l3nP
 rw [hxsA.len] at husnP
 simp only [List.length_cons, List.length_nil, List.take_succ_cons, List.take_nil, List.take_zero, Nat.zero_add, Nat.reduceAdd] at husnP
 k_extra "lp"
 rename Fm h F _ _ F3nP _ => fD
 obtain ⟨pv0, pv1, pv2, pv3, pv4, pv5, rfl, pn0, pn1, pn2, pn3, pn4, pn5⟩ := six_of husnP
 obtain ⟨GD, gD, lD, eD⟩ : ∃ G, Fm h F (adr []) _ G _ ∧ Le F3nP G ∧ G dd = some (lst (dvs ++ [.ref ao2] ++ [.ref ao3])) :=
  ⟨_, fD.freeze (.tail (.tail (.tail (.tail (.tail (.tail .head)))))) od.h0 od.nw, Fz.le_set (fD.mus.has (dd, _) (.tail _ (.tail _ (.tail _ (.tail _ (.tail _ (.tail _ (.head _)))))))).2, Fz.set_self⟩
 clear fD
 k_extra "callk"
 k_extra "lp"
 k_extra "callk"
 k_extra "lp"
 k_extra "callk"
 refine' c_lfonts ?Rfo gD ?qfo
 case Rfo => k_extra "room"
 intro fd fa fb F30 h30 tk30 efd nsfd fva fvb f30 l30
 k_extra "lp"
 refine r_dict0 f30 fun fm F31 h31 f31 l31 => ?_
 k_extra "lp"
 k_extra "callk"
 k_extra "lp"
 refine' c_mk_Mat (M := ⟨xa, xb, xc, xd, xe, xf⟩) ?Rmm (by assumption) ?m0 ?m1 ?m2 ?m3 ?m4 ?m5 ?qmm
 case Rmm => k_extra "room"
 case m0 => exact pn0.mono (by k_extra "le")
 case m1 => exact pn1.mono (by k_extra "le")
 case m2 => exact pn2.mono (by k_extra "le")
 case m3 => exact pn3.mono (by k_extra "le")
 case m4 => exact pn4.mono (by k_extra "le")
 case m5 => exact pn5.mono (by k_extra "le")
 intro vM F32 h32 tk32 hvM f32 l32
 k_extra "lp"
 obtain ⟨ow, _, _, _, _, _, _, _, rfl, _⟩ := id hvM
 k_extra "mkTextSheet"
 intro sh shd F33 h33 tk33 esh eshd f33 l33
 k_extra "lp"
 have hsh : SheetV prog w F33 sh := ⟨shd, _, fd, _, _, fa, fb, esh, eshd, Le.at (by k_extra "le") efd, nsfd, fva.mono (by k_extra "le"), fvb.mono (by k_extra "le")⟩
 have eDd : F33 dd = some (lst (dvs ++ [.ref ao2] ++ [.ref ao3])) := Le.at (by k_extra "le") eD
 have hM33 : MatV F33 (.ref ow) ⟨xa, xb, xc, xd, xe, xf⟩ := hvM.mono l33
 have aD : Al (OpV F33) (dvs ++ [.ref ao2] ++ [.ref ao3]) (ops ++ [.Tj (codesOf #[65, 32])] ++ [.ET]) := ((T1'.dv.mono fun v o => OpV.mono (show Le F25 F33 from by k_extra "le")).app (.cons (v3.mono (show Le F25 F33 from by k_extra "le")) .nil))
 refine' c_lay (ops := ops ++ [.Tj (codesOf #[65, 32])] ++ [.ET]) ?Rla (by assumption) hsh esh eshd eDd aD hM33 q6 ?okl ?nl ?rl
 case Rla => k_extra "room"
 case okl => exact T1'.ok.app ⟨T1'.tx, trivial⟩
 case nl => simp only [List.length_append, List.length_singleton]; k_extra "om"
 intro DG gs F34 h34 tk34 eG aG f34 l34
 k_extra "lp"
 have er2 : ((WS.init ⟨xa, xb, xc, xd, xe, xf⟩).run (ops ++ [.Tj (codesOf #[65, 32])] ++ [.ET])).rows = ((WS.init ⟨xa, xb, xc, xd, xe, xf⟩).run (ops ++ [.Tj (codesOf #[65, 32])])).rows := by rw [run1]; rfl
 rw [er2] at aG
 have aR := T1'.du
 have glen : gs.length = (ds ++ dsh).length := aG.len.trans aR.len.symm
 have dlen : (ds ++ dsh).length ≤ 4 * (ops.length + 1) := by have := T1'.dl; rw [List.length_append (as := ops)] at this; exact this
 have qF := T1'.q
 k_extra "callb"
 k_extra "lp"
 k_extra "len?"
 case hn => k_extra "om"
 k_extra "lp"
 k_extra "callb"
 k_extra "lp"
 k_extra "len?"
 case hn => k_extra "om"
 k_extra "lp"
 refine ite_f (by rw [glen]; simp) ?_
 k_extra "lp"
 k_extra "callb"
 k_extra "lp"
 k_extra "callb"
 k_extra "lp"
 k_extra "len?"
 case hn => k_extra "om"
 k_extra "lp"
 k_extra "rng"
 intro R2 F35 h35 tk35 f35 l35 e35
 rename Fm h F _ _ F35 _ => fE
 obtain ⟨GU, gU, lU, eU⟩ : ∃ G, Fm h F (adr []) [(env.locals, frm env _)] G _ ∧ Le F35 G ∧ G du = some (lst (ds ++ dsh)) :=
  ⟨_, (fE.freeze (.tail (.tail (.tail (.tail (.tail (.tail .head)))))) ou.h0 ou.nw).only, Fz.le_set (fE.mus.has (du, _) (.tail _ (.tail _ (.tail _ (.tail _ (.tail _ (.tail _ (.head _)))))))).2, Fz.set_self⟩
 clear fE
 have e36 : GU R2 = some (rng 0 (0 + ((ds ++ dsh).length : Nat))) := by rw [Int.zero_add]; exact lU _ _ e35
 refine for_range (n := (ds ++ dsh).length) (a := 0) (JR sl DA sa wa dd du DnP DG o2) (by k_extra "hd") e36 (by decide) (by k_extra "om") gU ⟨_, _, _, rfl, rfl⟩ ?_ ?_ (fun I v => rfl)
 ·rintro I i ti ls' mu' F40 h40 tk40 hi ⟨o3, o4, o5, rfl, rfl⟩ l40 f40
  obtain ⟨r, er⟩ : ∃ r, ((WS.init ⟨xa, xb, xc, xd, xe, xf⟩).run (ops ++ [.Tj (codesOf #[65, 32])])).rows[i]? = some r := ⟨_, List.getElem?_eq_getElem (by rw [← aR.len]; exact hi)⟩
  obtain ⟨gv, eg, hg⟩ := aG.get i r er
  obtain ⟨dv, ed, hd⟩ := aR.get i r er
  have rq := (qF.rows r (List.mem_of_getElem? er)).to (E' := 30000) (by first | k_extra "om" | (simp only [List.length_append, List.length_singleton]; k_extra "om"))
  have hg := hg.mono (show Le F34 F40 from by k_extra "le")
  have hd := hd.mono (show Le F25 F40 from by k_extra "le")
  have eg0 : gs[((0 : Int) + (i : Int)).toNat]? = some gv := by rw [show ((0 : Int) + (i : Int)).toNat = i by k_extra "om"]; exact eg
  have ed0 : (ds ++ dsh)[((0 : Int) + (i : Int)).toNat]? = some dv := by rw [show ((0 : Int) + (i : Int)).toNat = i by k_extra "om"]; exact ed
  obtain ⟨go, gd, gt1, ga1, ga2, ga3, ga4, rfl, hgo1, hgo2, _⟩ := id hg
  obtain ⟨DT, dt1, X, tx, Y, ty, Wd, tw, Z, tz, rfl, eDT, sX, sY, sW, sZ⟩ := hd
  have eGF : F40 DG = some (lst gs) := Le.at (by k_extra "le") eG
  have eUF : F40 du = some (lst (ds ++ dsh)) := Le.at (by k_extra "le") eU
  k_extra "lp"
  k_extra "itm?"
  case h0 => k_extra "om"
  case hk => k_extra "om"
  case hx => exact eg0
  k_extra "lp"
  k_extra "cGtold"
  case gv => exact hg
  intro T tt v1 v2 v3 v4 F41 h41 tk41 eT t1 t2 t3 t4 f41 l41
  have eDT1 := l41 _ _ eDT
  have eUF1 := l41 _ _ eUF
  k_extra "lp"
  k_extra "itm?"
  case h0 => k_extra "om"
  case hk => k_extra "om"
  case hx => exact ed0
  k_extra "lp"
  refine r_nes true (beq_self_eq_true _) ?_
  k_extra "lp"
  k_extra "callb"
  k_extra "lp"
  refine' r_lenT ?fT5 ?aT5 ?hn5 ?q5
  case fT5 => assumption
  case aT5 => k_extra "at"
  case hn5 => exact (by decide : 5 < 2 ^ 63)
  intro _ _
  k_extra "lp"
  refine ite_f rfl ?_
  k_extra "lp"
  k_extra "callb"
  k_extra "lp"
  k_extra "rng"
  intro R3 F42 h42 tk42 f42 l42 e42
  have e43 : F42 R3 = some (rng 1 (1 + ((4 : Nat) : Int))) := e42
  refine for_range (n := 4) (a := 1) (JP sl DA sa wa dd du DnP DG T o2 (some (.int (0 + i) ti)) [(I, itR 0 (ds ++ dsh).length (i + 1))]) (by k_extra "hd") e43 (by decide) (by decide) f42 ⟨_, rfl, rfl⟩ ?_ ?_ (fun I v => rfl)
  ·rintro J j tj ls' mu' F44 h44 tk44 hj ⟨o5, rfl, rfl⟩ l44 f44
   obtain ⟨v, N, tn, x, ev, eN, tv, sx, qx⟩ : CmpAt [.str r.text tt, v1, v2, v3, v4] [.str r.text dt1, .int X tx, .int Y ty, .int Wd tw, .int Z tz] ((1 : Int) + (j : Int)).toNat F41 := by
    rw [i_t1]
    have : j = 0 ∨ j = 1 ∨ j = 2 ∨ j = 3 := by k_extra "om"
    rcases this with rfl | rfl | rfl | rfl
    ·exact ⟨v1, X, tx, r.x, rfl, rfl, t1, sX, rq.x⟩
    ·exact ⟨v2, Y, ty, r.y, rfl, rfl, t2, sY, rq.y⟩
    ·exact ⟨v3, Wd, tw, r.width, rfl, rfl, t3, sW, rq.width⟩
    ·exact ⟨v4, Z, tz, r.size, rfl, rfl, t4, sZ, rq.size⟩
   have tv := tv.mono (show Le F41 F44 from by k_extra "le")
   have eT4 : F44 T = some (tup [.str r.text tt, v1, v2, v3, v4]) := Le.at (by k_extra "le") eT
   have eD4 : F44 DT = some (tup [.str r.text dt1, .int X tx, .int Y ty, .int Wd tw, .int Z tz]) := Le.at (by k_extra "le") eDT1
   have eU4 : F44 du = some (lst (ds ++ dsh)) := Le.at (by k_extra "le") eUF1
   k_extra "lp"
   k_extra "callk"
   k_extra "lp"
   k_extra "itm?"
   case h0 => k_extra "om"
   case hk => k_extra "om"
   case hx => exact ev
   k_extra "lp"
   k_extra "itm?"
   case h0 => k_extra "om"
   case hk => k_extra "om"
   case hx => exact ed0
   k_extra "lp"
   k_extra "itm?"
   case h0 => k_extra "om"
   case hk => k_extra "om"
   case hx => exact eN
   k_extra "lp"
   refine' c_same ?Rsm (by assumption) tv sx qx (Nat.le_refl _) ?qsm
   case Rsm => k_extra "room"
   intro F45 h45 tk45 f45 l45
   k_extra "lp"
   exact ⟨_, _, _, _, _, rfl, by assumption, l44.trans l45, _, rfl, rfl⟩
  rintro ls' mu' F46 h46 tk46 ⟨o5, rfl, rfl⟩ l46 f46
  k_extra "lp"
  exact ⟨_, _, _, _, _, rfl, by assumption, ((l40.trans l41).trans l42).trans l46, _, _, _, rfl, rfl⟩
 rintro ls' mu' F47 h47 tk47 ⟨o3, o4, o5, rfl, rfl⟩ l47 f47
 k_extra "lp"
 exact ret _ _ _ (f.back t (by assumption)).1 (f.back t (by assumption)).2
in #guard_msgs in open Nat
end
set_option Elab.async false
end Pg
theorem Pg.ints_of {vs : List Value} {ns : List Int} (h : IntsAre vs ns) : ∀ v ∈ vs, ∃ x t, v = Value.int x t := by
  induction h with
  | nil => intro v hv; cases hv
  | cons _ _ _ ih =>
    intro v hv
    rcases List.mem_cons.mp hv with rfl | hv
    · exact ⟨_, _, rfl⟩
    · exact ih v hv
theorem Pg.ints_len {vs : List Value} {ns : List Int} (h : IntsAre vs ns) : vs.length = ns.length := by
  induction h with
  | nil => rfl
  | cons _ _ _ ih => rw [List.length_cons, List.length_cons, ih]
theorem Pg.well_list {P : Params} {h : Heap} {a : Addr} {d : PyData} {xs : List PyData} (e : d = .list xs) (w : Well P h (.ref a) (ofPy d)) : ∃ vs, h.get? a = some { cls := .type "list", data := .seq (Array.mk vs) } := by
  subst e
  rw [ofPy] at w
  cases w with
  | list e _ => exact ⟨_, e⟩
theorem Pg.base0 {h : Heap} {mg mb : Str → Option Value} (k : Pg.K.In h) (n : h.NoLimit) (a : h.Ns mainGlobals mg) (b : h.Ns builtinsNs mb) (c : ∀ x : Str, x ≠ "__name__" → mb x = bootBuiltins x) : Pg.Base (fun a => (h.get? a).map Pg.Raw) :=
  ⟨h, mg, mb, k, n, a, b, c, fun a o e => by show (h.get? a).map Pg.Raw = _; rw [e]; rfl⟩
theorem Pg.fmZ {h : Heap} (B : Pg.Base (fun a => (h.get? a).map Pg.Raw)) : Pg.Fm h (fun a => (h.get? a).map Pg.Raw) [] [] (fun a => (h.get? a).map Pg.Raw) h :=
  ⟨Pg.Ext.rfl fun a c e => by
    cases q : h.get? a with
    | none => rw [q] at e; cases e
    | some o => rw [q] at e; cases e; exact ⟨o, q, rfl⟩, Pg.Mus.nil, fun p hp => (nomatch hp), fun a ha => (nomatch ha), B⟩
theorem Pg.law_cfg : Pg.LawAt Pg.cfg := by
  intro h tk sl cs mg mb Q kin nl ns1 ns2 bi hsl hi hz ret
  have kin' : Pg.K.In h := by unfold Pg.K; rw [Pg.w_is]; exact kin
  have z : wpAny (model Pg.prog Pg.w) callerA (call (.ref 896) [.ref sl]) Q Pg.E ⟨h, Pg.g, Pg.d, tk, Pg.os⟩ := by
    refine Pg.c_law (F := fun a => (h.get? a).map Pg.Raw) (W := []) (mu := []) (cs := cs) ?_ (Pg.fmZ (Pg.base0 kin' nl ns1 ns2 bi)) ?_ hi hz ?_
    · exact ⟨by decide +kernel, by decide +kernel, rfl⟩
    · show (h.get? _).map Pg.Raw = _
      rw [hsl]
      rfl
    · intro F' h' tk' f l
      rw [Pg.g_is, Pg.d_is, Pg.os_is]
      exact ret h' tk' fun b o e => f.ext.keep b o e (fun z => (nomatch z))
  rw [Pg.prog_is, Pg.w_is, Pg.g_is, Pg.d_is, Pg.os_is] at z
  exact z
set_option maxHeartbeats 8000000 in
theorem PySem.Challenge.cw_nn0156_01_holds : PySem.Challenge.rw_nn0156_01.Holds := by
  refine hd ?_
  intro w s₀ s₁ mg mb G Y fa o pm cd doc dV kV ho hd' hcd hD hmg hg args vals as hpre hlay hrd hwl hlo
  have KX := kIn_of Y
  refine Ground.open G ?_
  intro T B D TE TW
  wrow_args hpre hlay hrd hwl hlo
  clear ho hd' hcd hD B D TE TW G Y
  rename Well _ _ _ _ => wl
  rename IntsAre _ _ => hI
  rename Heap.IsList _ _ _ => hL
  rename ¬ _ => hc
  obtain ⟨vs, ev⟩ := Pg.well_list rfl wl
  obtain ⟨o2, e2, _, n2, d2⟩ := hL
  rw [ev] at e2
  cases e2
  injection d2 with d3 d4
  have d5 := congrArg Array.toList d3
  have hm : mg "law" = some (.ref 896) := mg_of KX T.g (by k_is)
  have ef : fa = 896 := by
    have := hmg.symm.trans hm
    injection this with this
    injection this
  subst ef
  obtain ⟨h1, gens1, dr1, tk1, os1⟩ := s₁
  cases hg
  refine wpAny_mono (Pg.law_all Pg.law_cfg ⟨w, dr1, os1⟩ h1 tk1 _ vs mg mb (fun v s' => GoodWG _ _ _ _ _ (.ok (.ret v)) s') KX T.nolimit T.g T.b T.builtins ev ?_ ?_ ?_) (fun _ _ z => z) (fun _ _ z => z.elim)
  · have : vs = _ := d5
    rw [this]
    exact Pg.ints_of hI
  · have : vs = _ := d5
    rw [this]
    have := Pg.ints_len hI
    simp only at *
    omega
  · intro h' tk' keep
    refine GoodW.toG ⟨.inl ⟨_, _, _, rfl, ?_, .bool true, ?_, fun _ => ⟨List.nodup_nil, fun a ha => (nomatch ha)⟩⟩, keep, rfl, rfl⟩
    · exact raisesW_false (by wrow_none_raised)
    · wrow_post
